import PyProof.Rows.All
import HandS.ForMost
import HandS.Exc
import HandS.Deep
import HandS.Wide
import HandS.TupAny
import HandS.TupMul
import HandS.IsInst
import HandS.SortInts
import HandS.Style
import HandS.Zip
import HandS.CallSlots
import HandS.Star
import HandS.MakeKwOnly
import PyProof.NeKinds
import PySem.Challenge.RW_lenspairs_k70_whole_alike_judged
set_option Elab.async false
set_option linter.all false
set_option maxRecDepth 100000
set_option maxHeartbeats 4000000
/-! FL1: pure data D, the state of a def's body over it (Sta), the readings by functions. -/
namespace FL
open PySem PySem.Spec PyProof.Rows L2

/-- pure data -/
inductive D where
  | non
  | bl (b : Bool)
  | int (i : Int)
  | str (x : Str)
  | tup (xs : List D)
  | lst (xs : List D)
  | scr (ns : List Int)
  | fn (a : Addr)
  | dct (kvs : List (Key × D))
  | exc (C : Addr) (fs : List (Str × D))

instance : Inhabited D := ⟨.non⟩

/-- a caught exception's object -/
def XO (a C d : Addr) : HO := .ext fun h => ∃ (oe : Obj) (vs : Array Value), h.get? a = some oe ∧ oe.cls = .ref C ∧ oe.dict = some d ∧ oe.data = .fields vs

mutual
inductive Rep (K : PySem.W.Frag) (F : Hp) : V → D → Prop
  | non : Rep K F .non .non
  | bl (b : Bool) : Rep K F (.bl b) (.bl b)
  | int (i : Int) : Rep K F (.int i) (.int i)
  | str (x : Str) : Rep K F (.str x) (.str x)
  | fn (a : Addr) : Rep K F (.ref a) (.fn a)
  | tup {a : Addr} {xs : List V} {ds : List D} : SqT K F a xs → Reps K F xs ds → Rep K F (.ref a) (.tup ds)
  | lst {a : Addr} {xs : List V} {ds : List D} : F a = some (.lst xs) → Reps K F xs ds → Rep K F (.ref a) (.lst ds)
  | scr {a : Addr} {ns : List Int} : SqL K F a (ns.map V.int) → Rep K F (.ref a) (.scr ns)
  | dct {a : Addr} {kvs : List (Key × V)} {ds : List (Key × D)} : F a = some (.dK kvs) → kvs.map (·.1) = ds.map (·.1) → Reps K F (kvs.map (·.2)) (ds.map (·.2)) → Rep K F (.ref a) (.dct ds)
  | exc {a d C : Addr} {fsV : List (Str × V)} {fs : List (Str × D)} : F a = some (XO a C d) → F d = some (.xd fsV) → fsV.map (·.1) = fs.map (·.1) → Reps K F (fsV.map (·.2)) (fs.map (·.2)) → Rep K F (.ref a) (.exc C fs)
inductive Reps (K : PySem.W.Frag) (F : Hp) : List V → List D → Prop
  | nil : Reps K F [] []
  | cons {v : V} {vs : List V} {d : D} {ds : List D} : Rep K F v d → Reps K F vs ds → Reps K F (v :: vs) (d :: ds)
end

theorem sm_rd {H H' : Hp} {a : Addr} {u : HO} (e : Same H H') (h : Rd H a u) : Rd H' a u := by
  rcases h with h | ⟨o, h⟩
  · exact .inl (e _ _ h)
  · exact .inr ⟨o, e _ _ h⟩
theorem sm_tup {K : PySem.W.Frag} {H H' : Hp} {a : Addr} {xs : List V} (e : Same H H') (h : SqT K H a xs) : SqT K H' a xs := by
  rcases h with h | h
  · exact .inl (sm_rd e h)
  · exact .inr h

section
variable {K : PySem.W.Frag} {F F' : Hp}
mutual
theorem Rep.mono (e : Same F F') : ∀ {v : V} {d : D}, Rep K F v d → Rep K F' v d
  | _, _, .non => .non
  | _, _, .bl b => .bl b
  | _, _, .int i => .int i
  | _, _, .str x => .str x
  | _, _, .fn a => .fn a
  | _, _, .tup h r => .tup (sm_tup e h) (Reps.mono e r)
  | _, _, .lst h r => .lst (e _ _ h) (Reps.mono e r)
  | _, _, .scr h => .scr (Same.seq e h)
  | _, _, .dct h k r => .dct (e _ _ h) k (Reps.mono e r)
  | _, _, .exc h1 h2 k r => .exc (e _ _ h1) (e _ _ h2) k (Reps.mono e r)
theorem Reps.mono (e : Same F F') : ∀ {vs : List V} {ds : List D}, Reps K F vs ds → Reps K F' vs ds
  | _, _, .nil => .nil
  | _, _, .cons h r => .cons (Rep.mono e h) (Reps.mono e r)
end
theorem Reps.length : ∀ {vs : List V} {ds : List D}, Reps K F vs ds → vs.length = ds.length
  | _, _, .nil => rfl
  | _, _, .cons _ r => congrArg (· + 1) (Reps.length r)
theorem Reps.append : ∀ {vs ws : List V} {ds es : List D}, Reps K F vs ds → Reps K F ws es → Reps K F (vs ++ ws) (ds ++ es)
  | _, _, _, _, .nil, q => q
  | _, _, _, _, .cons h r, q => .cons h (Reps.append r q)
theorem Reps.get : ∀ {vs : List V} {ds : List D} {i : Nat} {d : D}, Reps K F vs ds → ds[i]? = some d → ∃ v, vs[i]? = some v ∧ Rep K F v d
  | _, _, _, _, .nil, e => by simp at e
  | _, _, 0, _, .cons h r, e => by
    simp at e
    subst e
    exact ⟨_, rfl, h⟩
  | _, _, i + 1, d, .cons h r, e => by
    obtain ⟨v, h1, h2⟩ := Reps.get (i := i) (d := d) r (by simpa using e)
    exact ⟨v, by simpa using h1, h2⟩
theorem Reps.getv : ∀ {vs : List V} {ds : List D} {i : Nat} {v : V}, Reps K F vs ds → vs[i]? = some v → ∃ d, ds[i]? = some d ∧ Rep K F v d
  | _, _, _, _, .nil, e => by simp at e
  | _, _, 0, _, .cons h r, e => by
    simp at e
    subst e
    exact ⟨_, rfl, h⟩
  | _, _, i + 1, v, .cons h r, e => by
    obtain ⟨d, h1, h2⟩ := Reps.getv (i := i) (v := v) r (by simpa using e)
    exact ⟨d, by simpa using h1, h2⟩
theorem Reps.take : ∀ {vs : List V} {ds : List D} (n : Nat), Reps K F vs ds → Reps K F (vs.take n) (ds.take n)
  | _, _, 0, _ => .nil
  | _, _, _ + 1, .nil => .nil
  | _, _, n + 1, .cons h r => .cons h (Reps.take n r)
theorem Reps.drop : ∀ {vs : List V} {ds : List D} (n : Nat), Reps K F vs ds → Reps K F (vs.drop n) (ds.drop n)
  | _, _, 0, r => r
  | _, _, _ + 1, .nil => .nil
  | _, _, n + 1, .cons h r => Reps.drop n r
theorem Reps.set {v : V} {d : D} (h : Rep K F v d) : ∀ {vs : List V} {ds : List D} (i : Nat), Reps K F vs ds → Reps K F (vs.set i v) (ds.set i d)
  | _, _, _, .nil => .nil
  | _, _, 0, .cons _ r => .cons h r
  | _, _, i + 1, .cons q r => .cons q (Reps.set h i r)
theorem Reps.ints : ∀ (ns : List Int), Reps K F (ns.map V.int) (ns.map D.int)
  | [] => .nil
  | n :: ns => .cons (.int n) (Reps.ints ns)
theorem Reps.of_ints : ∀ {vs : List V} {ns : List Int}, Reps K F vs (ns.map D.int) → vs = ns.map V.int
  | _, [], .nil => rfl
  | _, n :: ns, .cons h r => by
    cases h
    rw [Reps.of_ints r]
    rfl
theorem Reps.snoc {vs : List V} {ds : List D} {v : V} {d : D} (r : Reps K F vs ds) (h : Rep K F v d) : Reps K F (vs ++ [v]) (ds ++ [d]) := r.append (.cons h .nil)
theorem Reps.reverse : ∀ {vs : List V} {ds : List D}, Reps K F vs ds → Reps K F vs.reverse ds.reverse
  | _, _, .nil => .nil
  | _, _, .cons h r => by
    rw [List.reverse_cons, List.reverse_cons]
    exact (Reps.reverse r).append (.cons h .nil)
end

/-! ### slots -/
/-- what a mutable thing holds: a list, an instance -/
inductive M where
  | lst (ds : List D)
  | ins (C : Addr) (fs : List (Str × D))
def MRep (K : PySem.W.Frag) (F H : Hp) (p : Addr) : M → Prop
  | .lst ds => ∃ vs, H p = some (.lst vs) ∧ Reps K F vs ds
  | .ins C fs => ∃ dx fsV, H p = some (.ins C dx fsV) ∧ fsV.map (·.1) = fs.map (·.1) ∧ Reps K F (fsV.map (·.2)) (fs.map (·.2))
theorem MRep.here {K : PySem.W.Frag} {F H : Hp} {p : Addr} {m : M} (h : MRep K F H p m) : ∃ o, H p = some o := by
  cases m with
  | lst ds => obtain ⟨vs, e, _⟩ := h; exact ⟨_, e⟩
  | ins C fs => obtain ⟨dx, fsV, e, _⟩ := h; exact ⟨_, e⟩
theorem MRep.mono {K : PySem.W.Frag} {F F' H H' : Hp} {p : Addr} {m : M} (h : MRep K F H p m) (e : Same F F') (k : ∀ o, H p = some o → H' p = some o) : MRep K F' H' p m := by
  cases m with
  | lst ds => obtain ⟨vs, e1, r⟩ := h; exact ⟨vs, k _ e1, r.mono e⟩
  | ins C fs => obtain ⟨dx, fsV, e1, l, r⟩ := h; exact ⟨dx, fsV, k _ e1, l, r.mono e⟩

inductive Slot where
  /-- not known -/
  | no
  /-- data, never changed -/
  | val (d : D)
  /-- a thing of our own -/
  | own (m : M)
  /-- a thing that was handed to us, at the place π i -/
  | io (m : M)
abbrev Rho := List Slot

/-- what the state is compared with: the heap at a beginning, its frozen part, what may be changed of it: handed in, own -/
structure Cfg where
  H0 : Hp
  F0 : Hp
  io : List Addr
  ow : List Addr

def SlotOk (K : PySem.W.Frag) (π : Nat → Addr) (c : Cfg) (F H : Hp) (σ : L2.St) (i : Nat) : Slot → Prop
  | .no => True
  | .val d => ∃ v, σ[i]? = some (some v) ∧ Rep K F v d
  | .own m => ∃ p, σ[i]? = some (some (.ref p)) ∧ F p = none ∧ (c.H0 p = none ∨ p ∈ c.ow) ∧ MRep K F H p m
  | .io m => σ[i]? = some (some (.ref (π i))) ∧ F (π i) = none ∧ π i ∈ c.io ∧ MRep K F H (π i) m
/-- slot i is at p, ours to change -/
def OwnAt (σ : L2.St) (ρ : Rho) (i : Nat) (p : Addr) : Prop := σ[i]? = some (some (.ref p)) ∧ ∃ m, ρ[i]? = some (.own m) ∨ ρ[i]? = some (.io m)

structure Sta (K : PySem.W.Frag) (π : Nat → Addr) (c : Cfg) (F H : Hp) (σ : L2.St) (ρ : Rho) : Prop where
  h0 : ∀ q o, c.H0 q = some o → q ∉ c.io → q ∉ c.ow → H q = some o
  hio : ∀ q, q ∈ c.io ∨ q ∈ c.ow → ∃ o, H q = some o
  f0 : Same c.F0 F
  f : Same F H
  nf : ∀ q o, c.H0 q = some o → c.F0 q = none → F q = none
  len : σ.length = ρ.length
  rep : ∀ i s, ρ[i]? = some s → SlotOk K π c F H σ i s
  dis : ∀ i j p, OwnAt σ ρ i p → OwnAt σ ρ j p → i = j

/-- the heap has grown, nothing has changed -/
structure Grw (F H F' H' : Hp) : Prop where
  f : Same F F'
  h : Same H H'
  fh : Same F' H'
  nf : ∀ q o, H q = some o → F q = none → F' q = none
theorem Grw.refl {F H : Hp} (h : Same F H) : Grw F H F H := ⟨Same.refl _, Same.refl _, h, fun _ _ _ e => e⟩
theorem sm_new {H : Hp} {p : Addr} {o : HO} (h : H p = none) : Same H (upd H p o) := fun a u e => by
  rw [upd_ne (ne_of_none e h)]
  exact e
theorem sm_upd2 {F H : Hp} (e : Same F H) {p : Addr} {o : HO} : Same (upd F p o) (upd H p o) := fun a u h => by
  by_cases q : a = p
  · subst q
    rw [upd_same] at h ⊢
    exact h
  · rw [upd_ne q] at h ⊢
    exact e _ _ h
theorem sm_updR {F H : Hp} (e : Same F H) {p : Addr} {o : HO} (h : F p = none) : Same F (upd H p o) := fun a u q => by
  rw [upd_ne (ne_of_none q h)]
  exact e _ _ q
/-- a new thing, frozen at once -/
theorem Grw.newF {F H : Hp} {p : Addr} {o : HO} (h : Same F H) (e : H p = none) : Grw F H (upd F p o) (upd H p o) :=
  ⟨sm_new (Same.free h e), sm_new e, sm_upd2 h, fun q u h1 h2 => by rw [upd_ne (ne_of_none h1 e)]; exact h2⟩
/-- a new thing, not frozen -/
theorem Grw.newO {F H : Hp} {p : Addr} {o : HO} (h : Same F H) (e : H p = none) : Grw F H F (upd H p o) :=
  ⟨Same.refl _, sm_new e, sm_updR h (Same.free h e), fun _ _ _ q => q⟩
theorem Grw.trans {F H F1 H1 F2 H2 : Hp} (a : Grw F H F1 H1) (b : Grw F1 H1 F2 H2) : Grw F H F2 H2 :=
  ⟨a.f.trans b.f, a.h.trans b.h, b.fh, fun q o h e => b.nf q o (a.h _ _ h) (a.nf q o h e)⟩

section
variable {K : PySem.W.Frag} {π : Nat → Addr} {c : Cfg} {F H F' H' : Hp} {σ σ' : L2.St} {ρ ρ' : Rho}
theorem Sta.any (S : Sta K π c F H σ ρ) {q : Addr} {o : HO} (e : c.H0 q = some o) : ∃ o', H q = some o' := by
  by_cases h1 : q ∈ c.io
  · exact S.hio q (.inl h1)
  · by_cases h2 : q ∈ c.ow
    · exact S.hio q (.inr h2)
    · exact ⟨o, S.h0 q o e h1 h2⟩
theorem Sta.grow (S : Sta K π c F H σ ρ) (g : Grw F H F' H') : Sta K π c F' H' σ ρ := by
  refine ⟨fun q o e n n' => g.h _ _ (S.h0 q o e n n'), fun q hq => ?_, S.f0.trans g.f, g.fh, fun q o e n => ?_, S.len, fun i s hs => ?_, S.dis⟩
  · obtain ⟨o, e⟩ := S.hio q hq
    exact ⟨o, g.h _ _ e⟩
  · obtain ⟨o', e'⟩ := S.any e
    exact g.nf q o' e' (S.nf q o e n)
  · have z := S.rep i s hs
    cases s with
    | no => trivial
    | val d =>
      obtain ⟨v, e, r⟩ := z
      exact ⟨v, e, r.mono g.f⟩
    | own m =>
      obtain ⟨p, e, n, fr, r⟩ := z
      obtain ⟨o, ho⟩ := r.here
      exact ⟨p, e, g.nf p o ho n, fr, r.mono g.f fun o ho => g.h _ _ ho⟩
    | io m =>
      obtain ⟨e, n, fr, r⟩ := z
      obtain ⟨o, ho⟩ := r.here
      exact ⟨e, g.nf _ o ho n, fr, r.mono g.f fun o ho => g.h _ _ ho⟩
theorem Sta.val (S : Sta K π c F H σ ρ) {i : Nat} {d : D} (h : ρ[i]? = some (.val d)) : ∃ v, σ[i]? = some (some v) ∧ Rep K F v d := S.rep i _ h

/-- what may be changed now -/
def isO : Slot → Bool
  | .own _ => true
  | _ => false
def isI : Slot → Bool
  | .io _ => true
  | _ => false
def adr : Option (Option V) → Option Addr
  | some (some (.ref p)) => some p
  | _ => none
theorem adr_eq {x : Option (Option V)} {p : Addr} (h : adr x = some p) : x = some (some (.ref p)) := by
  unfold adr at h
  split at h
  · cases h
    rfl
  · cases h
def adrs (t : Slot → Bool) (σ : L2.St) (ρ : Rho) : List Addr := (List.range ρ.length).filterMap fun i => if (ρ[i]?.map t).getD false = true then adr σ[i]? else none
theorem mem_adrs {t : Slot → Bool} {p : Addr} : p ∈ adrs t σ ρ ↔ ∃ (i : Nat) (s : Slot), σ[i]? = some (some (V.ref p)) ∧ ρ[i]? = some s ∧ t s = true := by
  constructor
  · intro h
    obtain ⟨i, hi, e⟩ := List.mem_filterMap.mp h
    cases h2 : ρ[i]? with
    | none => rw [h2] at e; cases e
    | some s =>
      rw [h2] at e
      by_cases z : t s = true
      · rw [if_pos (show ((some s).map t).getD false = true from z)] at e
        exact ⟨i, s, adr_eq e, h2, z⟩
      · rw [if_neg (show ¬ ((some s).map t).getD false = true from z)] at e
        cases e
  · rintro ⟨i, s, h1, h2, h3⟩
    refine List.mem_filterMap.mpr ⟨i, List.mem_range.mpr (List.getElem?_eq_some_iff.mp h2).1, ?_⟩
    rw [h2, if_pos (show ((some s).map t).getD false = true from h3), h1]
    rfl
/-- the state as its own beginning -/
def cfg (F H : Hp) (σ : L2.St) (ρ : Rho) : Cfg := ⟨H, F, adrs isI σ ρ, adrs isO σ ρ⟩
theorem Sta.ownO (S : Sta K π c F H σ ρ) {p : Addr} (h : p ∈ adrs isO σ ρ) : F p = none ∧ (c.H0 p = none ∨ p ∈ c.ow) ∧ ∃ o, H p = some o := by
  obtain ⟨i, s, e, hs, z⟩ := mem_adrs.mp h
  cases s with
  | own m =>
    obtain ⟨q, e', n, fr, r⟩ := S.rep i _ hs
    rw [e] at e'
    cases e'
    exact ⟨n, fr, r.here⟩
  | no => cases z
  | val d => cases z
  | io m => cases z
theorem Sta.ownI (S : Sta K π c F H σ ρ) {p : Addr} (h : p ∈ adrs isI σ ρ) : F p = none ∧ p ∈ c.io ∧ ∃ o, H p = some o := by
  obtain ⟨i, s, e, hs, z⟩ := mem_adrs.mp h
  cases s with
  | io m =>
    obtain ⟨e', n, fr, r⟩ := S.rep i _ hs
    rw [e] at e'
    cases e'
    exact ⟨n, fr, r.here⟩
  | no => cases z
  | val d => cases z
  | own m => cases z
theorem Sta.self (S : Sta K π c F H σ ρ) : Sta K π (cfg F H σ ρ) F H σ ρ := by
  refine ⟨fun q o e _ _ => e, fun q hq => ?_, Same.refl _, S.f, fun q o _ n => n, S.len, fun i s hs => ?_, S.dis⟩
  · rcases hq with hq | hq
    · exact (S.ownI hq).2.2
    · exact (S.ownO hq).2.2
  · have z := S.rep i s hs
    cases s with
    | no => trivial
    | val d => exact z
    | own m =>
      obtain ⟨p, e, n, fr, r⟩ := z
      exact ⟨p, e, n, .inr (mem_adrs.mpr ⟨i, _, e, hs, rfl⟩), r⟩
    | io m =>
      obtain ⟨e, n, fr, r⟩ := z
      exact ⟨e, n, mem_adrs.mpr ⟨i, _, e, hs, rfl⟩, r⟩
/-- from a part's end to the whole's -/
theorem Sta.back (S : Sta K π c F H σ ρ) (T : Sta K π (cfg F H σ ρ) F' H' σ' ρ') : Sta K π c F' H' σ' ρ' := by
  have ne : ∀ q o, c.H0 q = some o → q ∉ c.io → q ∉ c.ow → q ∉ adrs isI σ ρ ∧ q ∉ adrs isO σ ρ := fun q o e n1 n2 => ⟨fun h => n1 (S.ownI h).2.1, fun h => by
    rcases (S.ownO h).2.1 with z | z
    · rw [e] at z
      cases z
    · exact n2 z⟩
  have sm : ∀ q, (∃ o, H q = some o) → ∃ o, H' q = some o := fun q ⟨o, e⟩ => T.any e
  refine ⟨fun q o e n n' => T.h0 q o (S.h0 q o e n n') (ne q o e n n').1 (ne q o e n n').2, fun q hq => sm q (S.hio q hq), S.f0.trans T.f0, T.f, fun q o e n => ?_, T.len, fun i s hs => ?_, T.dis⟩
  · obtain ⟨o', e'⟩ := S.any e
    exact T.nf q o' e' (S.nf q o e n)
  · have z := T.rep i s hs
    cases s with
    | no => trivial
    | val d => exact z
    | own m =>
      obtain ⟨p, e, n, f, r⟩ := z
      refine ⟨p, e, n, ?_, r⟩
      rcases f with f | f
      · refine .inl ?_
        cases e : c.H0 p with
        | none => rfl
        | some o =>
          obtain ⟨o', e'⟩ := S.any e
          have f : H p = none := f
          rw [e'] at f
          cases f
      · exact (S.ownO f).2.1
    | io m =>
      obtain ⟨e, n, f, r⟩ := z
      exact ⟨e, n, (S.ownI f).2.1, r⟩

theorem Sta.ownAt (S : Sta K π c F H σ ρ) {i : Nat} {p : Addr} (h : OwnAt σ ρ i p) : F p = none ∧ (c.H0 p = none ∨ p ∈ c.ow ∨ p ∈ c.io) ∧ ∃ o, H p = some o := by
  obtain ⟨e, m, h | h⟩ := h
  · obtain ⟨q, e', n, fr, r⟩ := S.rep i _ h
    rw [e] at e'
    cases e'
    exact ⟨n, fr.elim .inl fun z => .inr (.inl z), r.here⟩
  · obtain ⟨e', n, fr, r⟩ := S.rep i _ h
    rw [e] at e'
    cases e'
    exact ⟨n, .inr (.inr fr), r.here⟩
/-- a slot gets data -/
theorem Sta.set (S : Sta K π c F H σ ρ) {i : Nat} (hi : i < ρ.length) {v : V} {d : D} (r : Rep K F v d) : Sta K π c F H (σ.set i (some v)) (ρ.set i (.val d)) := by
  have hl : i < σ.length := by rw [S.len]; exact hi
  refine ⟨S.h0, S.hio, S.f0, S.f, S.nf, by simpa using S.len, fun j s hs => ?_, fun j k p h1 h2 => ?_⟩
  · by_cases e : j = i
    · subst e
      rw [List.getElem?_set_self hi] at hs
      cases hs
      exact ⟨v, List.getElem?_set_self hl, r⟩
    · rw [List.getElem?_set_ne (Ne.symm e)] at hs
      have z := S.rep j s hs
      have g : (σ.set i (some v))[j]? = σ[j]? := List.getElem?_set_ne (Ne.symm e)
      cases s with
      | no => trivial
      | val d => obtain ⟨w, e1, r1⟩ := z; exact ⟨w, g.trans e1, r1⟩
      | own m => obtain ⟨p, e1, r1⟩ := z; exact ⟨p, g.trans e1, r1⟩
      | io m => obtain ⟨e1, r1⟩ := z; exact ⟨g.trans e1, r1⟩
  · have key : ∀ j, OwnAt (σ.set i (some v)) (ρ.set i (.val d)) j p → OwnAt σ ρ j p := fun j h => by
      obtain ⟨e, m, h⟩ := h
      by_cases q : j = i
      · subst q
        rw [List.getElem?_set_self hi] at h
        rcases h with h | h <;> cases h
      · rw [List.getElem?_set_ne (Ne.symm q)] at e h
        exact ⟨e, m, h⟩
    exact S.dis j k p (key j h1) (key k h2)
/-- a slot is forgotten -/
theorem Sta.forget (S : Sta K π c F H σ ρ) (i : Nat) : Sta K π c F H σ (ρ.set i .no) := by
  refine ⟨S.h0, S.hio, S.f0, S.f, S.nf, by simpa using S.len, fun j s hs => ?_, fun j k p h1 h2 => ?_⟩
  · by_cases e : j = i
    · subst e
      by_cases hi : j < ρ.length
      · rw [List.getElem?_set_self hi] at hs
        cases hs
        trivial
      · have z : (ρ.set j Slot.no)[j]? = none := by simp; omega
        rw [z] at hs
        cases hs
    · rw [List.getElem?_set_ne (Ne.symm e)] at hs
      exact S.rep j s hs
  · have key : ∀ j, OwnAt σ (ρ.set i .no) j p → OwnAt σ ρ j p := fun j h => by
      obtain ⟨e, m, h⟩ := h
      by_cases q : j = i
      · subst q
        by_cases hi : j < ρ.length
        · rw [List.getElem?_set_self hi] at h
          rcases h with h | h <;> cases h
        · have z : (ρ.set j Slot.no)[j]? = none := by simp; omega
          rw [z] at h
          rcases h with h | h <;> cases h
      · rw [List.getElem?_set_ne (Ne.symm q)] at h
        exact ⟨e, m, h⟩
    exact S.dis j k p (key j h1) (key k h2)
/-- a slot gets a new thing of its own -/
theorem Sta.setOwn (S : Sta K π c F H σ ρ) {i : Nat} (hi : i < ρ.length) {p : Addr} {m : M} (n : F p = none) (fr : c.H0 p = none ∨ p ∈ c.ow) (r : MRep K F H p m) (nw : ∀ j, ¬ OwnAt σ ρ j p) :
    Sta K π c F H (σ.set i (some (.ref p))) (ρ.set i (.own m)) := by
  have hl : i < σ.length := by rw [S.len]; exact hi
  refine ⟨S.h0, S.hio, S.f0, S.f, S.nf, by simpa using S.len, fun j s hs => ?_, fun j k q h1 h2 => ?_⟩
  · by_cases e : j = i
    · subst e
      rw [List.getElem?_set_self hi] at hs
      cases hs
      exact ⟨p, List.getElem?_set_self hl, n, fr, r⟩
    · rw [List.getElem?_set_ne (Ne.symm e)] at hs
      have z := S.rep j s hs
      have g : (σ.set i (some (V.ref p)))[j]? = σ[j]? := List.getElem?_set_ne (Ne.symm e)
      cases s with
      | no => trivial
      | val d => obtain ⟨w, e1, r1⟩ := z; exact ⟨w, g.trans e1, r1⟩
      | own m => obtain ⟨p, e1, r1⟩ := z; exact ⟨p, g.trans e1, r1⟩
      | io m => obtain ⟨e1, r1⟩ := z; exact ⟨g.trans e1, r1⟩
  · have key : ∀ j, OwnAt (σ.set i (some (.ref p))) (ρ.set i (.own m)) j q → (j = i ∧ q = p) ∨ (j ≠ i ∧ OwnAt σ ρ j q) := fun j h => by
      obtain ⟨e, m', h⟩ := h
      by_cases z : j = i
      · subst z
        rw [List.getElem?_set_self hl] at e
        cases e
        exact .inl ⟨rfl, rfl⟩
      · rw [List.getElem?_set_ne (Ne.symm z)] at e h
        exact .inr ⟨z, e, m', h⟩
    rcases key j h1 with ⟨a, b⟩ | ⟨a, b⟩
    · rcases key k h2 with ⟨a', b'⟩ | ⟨a', b'⟩
      · rw [a, a']
      · rw [b] at b'
        exact absurd b' (nw k)
    · rcases key k h2 with ⟨a', b'⟩ | ⟨a', b'⟩
      · rw [b'] at b
        exact absurd b (nw j)
      · exact S.dis j k q b b'
/-- our own thing has changed -/
theorem Sta.change (S : Sta K π c F H σ ρ) {i : Nat} {p : Addr} {m : M} {o : HO} (h : OwnAt σ ρ i p) (r : MRep K F (upd H p o) p m) (s' : Slot) (hs' : (s' = .own m ∧ ∃ m0, ρ[i]? = some (.own m0)) ∨ (s' = .io m ∧ ∃ m0, ρ[i]? = some (.io m0))) :
    Sta K π c F (upd H p o) σ (ρ.set i s') := by
  obtain ⟨n, fr, o0, ho⟩ := S.ownAt h
  have hi : i < ρ.length := by
    obtain ⟨_, m0, z | z⟩ := h <;> exact (List.getElem?_eq_some_iff.mp z).1
  refine ⟨fun q u e nq nq' => ?_, fun q hq => ?_, S.f0, sm_updR S.f n, S.nf, by simpa using S.len, fun j s hs => ?_, fun j k q h1 h2 => ?_⟩
  · have z : q ≠ p := fun z => by
      subst z
      rcases fr with z | z | z
      · rw [e] at z; cases z
      · exact nq' z
      · exact nq z
    rw [upd_ne z]
    exact S.h0 q u e nq nq'
  · by_cases z : q = p
    · subst z
      exact ⟨o, upd_same⟩
    · rw [upd_ne z]
      exact S.hio q hq
  · by_cases e : j = i
    · subst e
      rw [List.getElem?_set_self hi] at hs
      cases hs
      rcases hs' with ⟨rfl, m0, z⟩ | ⟨rfl, m0, z⟩
      · obtain ⟨p', e1, e2, e3, e4⟩ := S.rep j _ z
        have hp := h.1
        rw [e1] at hp
        cases hp
        exact ⟨p, e1, n, e3, r⟩
      · obtain ⟨e1, e2, e3, e4⟩ := S.rep j _ z
        have hp : p = π j := by
          have := h.1
          rw [e1] at this
          cases this
          rfl
        subst hp
        exact ⟨e1, e2, e3, r⟩
    · rw [List.getElem?_set_ne (Ne.symm e)] at hs
      have z := S.rep j s hs
      cases s with
      | no => trivial
      | val d => exact z
      | own m' =>
        obtain ⟨q, e1, e2, e3, r1⟩ := z
        have nq : q ≠ p := fun z => by
          subst z
          exact e (S.dis j i q ⟨e1, m', .inl hs⟩ h)
        exact ⟨q, e1, e2, e3, r1.mono (Same.refl _) fun u hu => by rw [upd_ne nq]; exact hu⟩
      | io m' =>
        obtain ⟨e1, e2, e3, r1⟩ := z
        have nq : π j ≠ p := fun z => by
          rw [z] at e1
          exact e (S.dis j i p ⟨e1, m', .inr hs⟩ h)
        exact ⟨e1, e2, e3, r1.mono (Same.refl _) fun u hu => by rw [upd_ne nq]; exact hu⟩
  · have key : ∀ j, OwnAt σ (ρ.set i s') j q → OwnAt σ ρ j q := fun j hj => by
      obtain ⟨e, m', hj⟩ := hj
      by_cases z : j = i
      · subst z
        rcases hs' with ⟨_, m0, y⟩ | ⟨_, m0, y⟩
        · exact ⟨e, m0, .inl y⟩
        · exact ⟨e, m0, .inr y⟩
      · rw [List.getElem?_set_ne (Ne.symm z)] at hj
        exact ⟨e, m', hj⟩
    exact S.dis j k q (key j h1) (key k h2)
/-- our own list is frozen -/
theorem Sta.freeze (S : Sta K π c F H σ ρ) {i : Nat} {ds : List D} (h : ρ[i]? = some (.own (.lst ds))) (hn : c.ow = []) :
    ∃ F', Grw F F F' F' ∧ Same F F' ∧ Sta K π c F' H σ (ρ.set i (.val (.lst ds))) := by
  obtain ⟨p, e, n, fr, vs, ho, r⟩ := S.rep i _ h
  have hi : i < ρ.length := (List.getElem?_eq_some_iff.mp h).1
  have hp : c.H0 p = none := by
    rcases fr with z | z
    · exact z
    · rw [hn] at z
      cases z
  have sm : Same F (upd F p (.lst vs)) := sm_new n
  refine ⟨upd F p (.lst vs), ⟨sm, sm, Same.refl _, fun q o h1 h2 => by rw [h1] at h2; cases h2⟩, sm, S.h0, S.hio, S.f0.trans sm, fun a u q => ?_, fun q o e1 e2 => ?_, by simpa using S.len, fun j s hs => ?_, fun j k q h1 h2 => ?_⟩
  · by_cases z : a = p
    · subst z
      rw [upd_same] at q
      cases q
      exact ho
    · rw [upd_ne z] at q
      exact S.f _ _ q
  · rw [upd_ne (fun z => by subst z; rw [hp] at e1; cases e1)]
    exact S.nf q o e1 e2
  · by_cases z : j = i
    · subst z
      rw [List.getElem?_set_self hi] at hs
      cases hs
      exact ⟨_, e, .lst upd_same (r.mono sm)⟩
    · rw [List.getElem?_set_ne (Ne.symm z)] at hs
      have y := S.rep j s hs
      cases s with
      | no => trivial
      | val d => obtain ⟨w, e1, r1⟩ := y; exact ⟨w, e1, r1.mono sm⟩
      | own m' =>
        obtain ⟨q, e1, e2, e3, r1⟩ := y
        have nq : q ≠ p := fun w => by
          subst w
          exact z (S.dis j i q ⟨e1, m', .inl hs⟩ ⟨e, _, .inl h⟩)
        exact ⟨q, e1, by rw [upd_ne nq]; exact e2, e3, r1.mono sm fun _ hu => hu⟩
      | io m' =>
        obtain ⟨e1, e2, e3, r1⟩ := y
        have nq : π j ≠ p := fun w => by
          rw [w] at e1
          exact z (S.dis j i p ⟨e1, m', .inr hs⟩ ⟨e, _, .inl h⟩)
        exact ⟨e1, by rw [upd_ne nq]; exact e2, e3, r1.mono sm fun _ hu => hu⟩
  · have key : ∀ j, OwnAt σ (ρ.set i (.val (.lst ds))) j q → OwnAt σ ρ j q := fun j hj => by
      obtain ⟨e, m', hj⟩ := hj
      by_cases z : j = i
      · subst z
        rw [List.getElem?_set_self hi] at hj
        rcases hj with hj | hj <;> cases hj
      · rw [List.getElem?_set_ne (Ne.symm z)] at hj
        exact ⟨e, m', hj⟩
    exact S.dis j k q (key j h1) (key k h2)
end
end FL
/-! FL2: readings by functions, rules for expressions and tests. -/
namespace FL
open PySem PySem.Spec PyProof.Rows L2

inductive R (α : Type) where
  | ok (a : α) (ρ : Rho)
  | exc (C : Addr) (fs : List (Str × D)) (ρ : Rho)
  | stuck
def R.bind {α β : Type} (x : R α) (k : α → Rho → R β) : R β := match x with
  | .ok a ρ => k a ρ
  | .exc C fs ρ => .exc C fs ρ
  | .stuck => .stuck
def R.of {α : Type} (x : Option α) (ρ : Rho) : R α := match x with
  | some a => .ok a ρ
  | none => .stuck
theorem R.ok_bind {α β : Type} (a : α) (ρ : Rho) (k : α → Rho → R β) : (R.ok a ρ).bind k = k a ρ := rfl
theorem R.exc_bind {α β : Type} (C : Addr) (fs : List (Str × D)) (ρ : Rho) (k : α → Rho → R β) : (R.exc C fs ρ : R α).bind k = .exc C fs ρ := rfl
theorem R.stuck_bind {α β : Type} (k : α → Rho → R β) : (R.stuck : R α).bind k = .stuck := rfl
theorem R.of_some {α : Type} (a : α) (ρ : Rho) : R.of (some a) ρ = .ok a ρ := rfl
theorem R.of_none {α : Type} (ρ : Rho) : (R.of none ρ : R α) = .stuck := rfl
abbrev EF := Rho → R D
abbrev TF := Rho → R Bool

/-- how results lie -/
abbrev Rel (β α : Type) := Cfg → Hp → Hp → L2.St → Rho → β → α → Prop
section
variable (K : PySem.W.Frag) (π : Nat → Addr) (W : WX)
def relE : Rel V D := fun _ F _ _ _ v d => Rep K F v d
def relT : Rel Bool Bool := fun _ _ _ _ _ b c => b = c
def relA : Rel (List V) (List D) := fun _ F _ _ _ vs ds => Reps K F vs ds
def relM : Rel V M := fun c F H σ ρ v m => ∃ p, v = .ref p ∧ F p = none ∧ c.H0 p = none ∧ (∀ j, ¬ OwnAt σ ρ j p) ∧ MRep K F H p m

def Po {α β : Type} (rel : Rel β α) (c : Cfg) (F : Hp) (σ : L2.St) (Q : β → Hp → Prop) : R α → Prop
  | .ok a ρ' => ∀ v F' H', Same F F' → Sta K π c F' H' σ ρ' → rel c F' H' σ ρ' v a → Q v H'
  | .exc C fs ρ' => ∀ dd fsV F' H', Same F F' → Sta K π c F' H' σ ρ' → H' dd = some (.xd fsV) → fsV.map (·.1) = fs.map (·.1) → Reps K F' (fsV.map (·.2)) (fs.map (·.2)) → W (.ref C) (some dd) σ H'
  | .stuck => False
def tG {α β : Type} (rel : Rel β α) (f : Rho → R α) : L2.St → Hp → (β → Hp → Prop) → Prop := fun σ H Q => ∃ c F ρ, Sta K π c F H σ ρ ∧ Po K π W rel c F σ Q (f ρ)
abbrev tE (f : EF) : TE := tG K π W (relE K) f
abbrev tT (f : TF) : TT := tG K π W relT f
abbrev tA (f : Rho → R (List D)) : TA := tG K π W (relA K) f
abbrev tM (f : Rho → R M) : TE := tG K π W (relM K) f
end

section
variable {K : PySem.W.Frag} {π : Nat → Addr} {W : WX} {α β α' β' : Type} {rel : Rel β α} {rel' : Rel β' α'} {c : Cfg} {F F' H H' : Hp} {σ : L2.St} {ρ ρ' : Rho}
theorem Po.mono {Q : β → Hp → Prop} (s : Same F F') : ∀ {r : R α}, Po K π W rel c F σ Q r → Po K π W rel c F' σ Q r
  | .ok a ρ', h => fun v F2 H2 s2 => h v F2 H2 (s.trans s2)
  | .exc C fs ρ', h => fun dd fsV F2 H2 s2 => h dd fsV F2 H2 (s.trans s2)
  | .stuck, h => h
theorem Po.imp {Q Q' : β → Hp → Prop} {r : R α} (h : Po K π W rel c F σ Q r) (k : ∀ v F' H' ρ' a, Same F F' → Sta K π c F' H' σ ρ' → rel c F' H' σ ρ' v a → Q v H' → Q' v H') : Po K π W rel c F σ Q' r := by
  cases r with
  | ok a ρ' => exact fun v F2 H2 s2 S r => k v F2 H2 ρ' a s2 S r (h v F2 H2 s2 S r)
  | exc C fs ρ' => exact h
  | stuck => exact h
/-- what follows a part -/
theorem po_bind {f : Rho → R α} {k : α → Rho → R α'} {Q : β' → Hp → Prop} {Q1 : β → Hp → Prop} (S : Sta K π c F H σ ρ) (h : Po K π W rel' c F σ Q ((f ρ).bind k))
    (cont : ∀ v F' H' ρ' a, Same F F' → Sta K π c F' H' σ ρ' → rel c F' H' σ ρ' v a → Po K π W rel' c F' σ Q (k a ρ') → Q1 v H') : tG K π W rel f σ H Q1 := by
  refine ⟨c, F, ρ, S, ?_⟩
  cases e : f ρ with
  | ok a ρ' =>
    rw [e] at h
    have h : Po K π W rel' c F σ Q (k a ρ') := h
    exact fun v F2 H2 s2 S2 r => cont v F2 H2 ρ' a s2 S2 r (h.mono s2)
  | exc C fs ρ' =>
    rw [e] at h
    exact h
  | stuck =>
    rw [e] at h
    exact h
/-- what a pure operation asks, at the end -/
theorem po_of {x : Option α} {Q : β → Hp → Prop} (h : Po K π W rel c F σ Q (R.of x ρ)) : ∃ a, x = some a ∧ ∀ v F' H', Same F F' → Sta K π c F' H' σ ρ → rel c F' H' σ ρ v a → Q v H' := by
  cases x with
  | none => exact h.elim
  | some a => exact ⟨a, rfl, h⟩
end

section
variable {X : Cx} {π : Nat → Addr} {W : WX} {e a b d : Expr} {es : List Expr} {pos p : Pos}
theorem PE.imp {t t' : TE} (h : PE X e t) (k : ∀ σ H Q, t' σ H Q → t σ H Q) : PE X e t' := ⟨fun pins s σ H Q I q => h.run pins s σ H Q I (k σ H Q q)⟩
theorem PT.imp {t t' : TT} (h : PT X e t) (k : ∀ σ H Q, t' σ H Q → t σ H Q) : PT X e t' := ⟨fun pins s σ H Q I q => h.run pins s σ H Q I (k σ H Q q)⟩
theorem PW.imp {t t' : TT} (h : PW X e t) (k : ∀ σ H Q, t' σ H Q → t σ H Q) : PW X e t' := ⟨fun wh pins s σ H Q I q => h.run wh pins s σ H Q I (k σ H Q q)⟩
theorem PA.imp {t t' : TA} (h : PA X es t) (k : ∀ σ H Q, t' σ H Q → t σ H Q) : PA X es t' := ⟨fun ps pins s σ H Q I q => h.run ps pins s σ H Q I (k σ H Q q)⟩

/-! ### names, constants -/
def vr (i : Nat) : EF := fun ρ => match ρ[i]? with
  | some (.val d) => .ok d ρ
  | _ => .stuck
def cst (d : D) : EF := fun ρ => .ok d ρ
theorem fe_vr {i : Nat} {x : Str} (h : PE X (.Name x pos) (tVar i)) : PE X (.Name x pos) (tE X.K π W (vr i)) := PE.imp h fun σ H Q ⟨c, F, ρ, S, q⟩ => by
  unfold vr at q
  split at q
  · rename_i d e
    obtain ⟨v, e1, r⟩ := S.val e
    exact ⟨v, e1, q v F H (Same.refl _) S r⟩
  · exact q.elim
theorem fe_cst {v : V} {d : D} (h : PE X e (tC v)) (hr : ∀ F, Rep X.K F v d) : PE X e (tE X.K π W (cst d)) := PE.imp h fun σ H Q ⟨c, F, ρ, S, q⟩ => q v F H (Same.refl _) S (hr F)
theorem fe_int {i : Int} {j : Nat} : PE X (.Constant (.int i) j pos) (tE X.K π W (cst (.int i))) := fe_cst pe_int fun _ => .int i
theorem fe_bl {i : Bool} {j : Nat} : PE X (.Constant (.bool i) j pos) (tE X.K π W (cst (.bl i))) := fe_cst pe_bl fun _ => .bl i
theorem fe_non {j : Nat} : PE X (.Constant .none j pos) (tE X.K π W (cst .non)) := fe_cst pe_non fun _ => .non
theorem fe_str {i : Str} {j : Nat} : PE X (.Constant (.str i) j pos) (tE X.K π W (cst (.str i))) := fe_cst pe_str fun _ => .str i
/-- a module's int -/
theorem fe_gint {x : Str} {i : Int} {t : Tok} (hg : Gl X x) (hm : X.mg x = some (.int i t)) (hd : (x == ("__debug__" : Str)) = false := by decide) : PE X (.Name x pos) (tE X.K π W (cst (.int i))) := fe_cst (pe_glob (v := .int i) hg hm ⟨t, rfl⟩ hd) fun _ => .int i
theorem fe_gstr {x : Str} {i : Str} {t : Tok} (hg : Gl X x) (hm : X.mg x = some (.str i t)) (hd : (x == ("__debug__" : Str)) = false := by decide) : PE X (.Name x pos) (tE X.K π W (cst (.str i))) := fe_cst (pe_glob (v := .str i) hg hm ⟨t, rfl⟩ hd) fun _ => .str i
/-- a module's tuple -/
theorem fe_gtup {x : Str} {a : Addr} {xs : List V} {ds : List D} (hg : Gl X x) (hm : X.mg x = some (.ref a)) (hs : ∀ F, SqT X.K F a xs) (hr : ∀ F, Reps X.K F xs ds) (hd : (x == ("__debug__" : Str)) = false := by decide) : PE X (.Name x pos) (tE X.K π W (cst (.tup ds))) :=
  fe_cst (pe_glob (v := .ref a) hg hm rfl hd) fun F => .tup (hs F) (hr F)
/-- a module's def -/
theorem fe_gfn {x : Str} {f : Addr} (hg : Gl X x) (hm : X.mg x = some (.ref f)) (hd : (x == ("__debug__" : Str)) = false := by decide) : PE X (.Name x pos) (tE X.K π W (cst (.fn f))) := fe_cst (pe_glob (v := .ref f) hg hm rfl hd) fun _ => .fn f

/-! ### operators -/
def op1 (o : D → Option D) (f : EF) : EF := fun ρ => (f ρ).bind fun x ρ => R.of (o x) ρ
def op2 (o : D → D → Option D) (f g : EF) : EF := fun ρ => (f ρ).bind fun x ρ => (g ρ).bind fun y ρ => R.of (o x y) ρ
def Op1 (K : PySem.W.Frag) (o : D → Option D) (r : V → Hp → VK → Prop) : Prop := ∀ {F H : Hp} {x : V} {dx d : D} {Q : VK}, Same F H → Rep K F x dx → o dx = some d → (∀ v F' H', Grw F H F' H' → Rep K F' v d → Q v H') → r x H Q
def Op2 (K : PySem.W.Frag) (o : D → D → Option D) (r : R2) : Prop := ∀ {F H : Hp} {x y : V} {dx dy d : D} {Q : VK}, Same F H → Rep K F x dx → Rep K F y dy → o dx dy = some d → (∀ v F' H', Grw F H F' H' → Rep K F' v d → Q v H') → r x y H Q
section
variable {K : PySem.W.Frag} {r r' : R2} {o o' : D → D → Option D} {f g h : EF}
theorem Op2.orL (q : Op2 K o r) : Op2 K o (fun x y H Q => r x y H Q ∨ r' x y H Q) := fun s a b e k => .inl (q s a b e k)
theorem Op2.orR (q : Op2 K o r') : Op2 K o (fun x y H Q => r x y H Q ∨ r' x y H Q) := fun s a b e k => .inr (q s a b e k)
/-- the reading of two operands and an operation -/
theorem rd_op2 {σ : L2.St} {H : Hp} {Q : VK} (q : Op2 K o r) (t : tE K π W (op2 o f g) σ H Q) : tOp r (tE K π W f) (tE K π W g) σ H Q := by
  obtain ⟨c, F, ρ, S, P⟩ := t
  refine po_bind S P fun x F1 H1 ρ1 dx s1 S1 r1 P1 => ?_
  refine po_bind S1 P1 fun y F2 H2 ρ2 dy s2 S2 r2 P2 => ?_
  obtain ⟨d, e, P3⟩ := po_of P2
  exact q S2.f (Rep.mono s2 r1) r2 e fun v F3 H3 gr rv => P3 v F3 H3 gr.f (S2.grow gr) rv
theorem rd_op1 {ru : V → Hp → VK → Prop} {o : D → Option D} {σ : L2.St} {H : Hp} {Q : VK} (q : Op1 K o ru) (t : tE K π W (op1 o f) σ H Q) : tUn ru (tE K π W f) σ H Q := by
  obtain ⟨c, F, ρ, S, P⟩ := t
  refine po_bind S P fun x F1 H1 ρ1 dx s1 S1 r1 P1 => ?_
  obtain ⟨d, e, P3⟩ := po_of P1
  exact q S1.f r1 e fun v F3 H3 gr rv => P3 v F3 H3 gr.f (S1.grow gr) rv
end
theorem fe_bin {op : Operator} {r : R2} {o : D → D → Option D} {f g : EF} (ho : OpR X (binaryOp op) r) (q : Op2 X.K o r) (ha : PE X a (tE X.K π W f)) (hb : PE X b (tE X.K π W g)) : PE X (.BinOp a op b pos) (tE X.K π W (op2 o f g)) :=
  PE.imp (pe_op ho ha hb) fun _ _ _ => rd_op2 q
theorem fe_un {op : UnaryOp} {r : V → Hp → VK → Prop} {o : D → Option D} {f : EF} (ho : UnR X (unaryOp op) r) (q : Op1 X.K o r) (ha : PE X a (tE X.K π W f)) : PE X (.UnaryOp op a pos) (tE X.K π W (op1 o f)) :=
  PE.imp (pe_un ho ha) fun _ _ _ => rd_op1 q
theorem fe_cmp {op : CmpOp} {r : R2} {o : D → D → Option D} {f g : EF} (ho : OpR X (compareOp op) r) (q : Op2 X.K o r) (ha : PE X a (tE X.K π W f)) (hb : PE X b (tE X.K π W g)) (hm : behindInMarks op b = false) : PE X (.Compare a [op] [b] pos) (tE X.K π W (op2 o f g)) :=
  PE.imp (pe_cmpR ho ha hb hm) fun _ _ _ => rd_op2 q
def tst (f : EF) : TF := fun ρ => (f ρ).bind fun x ρ => R.of (match x with | .bl b => some b | _ => none) ρ
theorem rd_tst {K : PySem.W.Frag} {f : EF} {σ : L2.St} {H : Hp} {Q : Bool → Hp → Prop} (t : tT K π W (tst f) σ H Q) : (tE K π W f) σ H fun x H1 => ∃ k, x = .bl k ∧ Q k H1 := by
  obtain ⟨c, F, ρ, S, P⟩ := t
  refine po_bind S P fun x F1 H1 ρ1 dx s1 S1 r1 P1 => ?_
  obtain ⟨d, e, P3⟩ := po_of P1
  cases r1 with
  | bl b =>
    cases e
    exact ⟨_, rfl, P3 _ F1 H1 (Same.refl _) S1 rfl⟩
  | _ => cases e
theorem ft_cmp {op : CmpOp} {r : R2} {o : D → D → Option D} {f g : EF} (ho : OpR X (compareOp op) r) (q : Op2 X.K o r) (ha : PE X a (tE X.K π W f)) (hb : PE X b (tE X.K π W g)) (hm : behindInMarks op b = false) : PT X (.Compare a [op] [b] pos) (tT X.K π W (tst (op2 o f g))) :=
  PT.imp (pt_cmpR ho ha hb hm) fun σ H Q t => by
    obtain ⟨c, F, ρ, S, P⟩ := t
    exact rd_op2 (π := π) (W := W) q (rd_tst ⟨c, F, ρ, S, P⟩)
/-- a chain of two comparisons -/
def chn (o o' : D → D → Option D) (f g h : EF) : EF := fun ρ => (f ρ).bind fun x ρ => (g ρ).bind fun y ρ => (R.of (o x y) ρ).bind fun z ρ => match z with
  | .bl true => (h ρ).bind fun w ρ => R.of (o' y w) ρ
  | .bl false => .ok (.bl false) ρ
  | _ => .stuck
theorem rd_chn {K : PySem.W.Frag} {r r' : R2} {o o' : D → D → Option D} {f g h : EF} {σ : L2.St} {H : Hp} {Q : VK} (q : Op2 K o r) (q' : Op2 K o' r') (t : tE K π W (chn o o' f g h) σ H Q) : tChain r r' (tE K π W f) (tE K π W g) (tE K π W h) σ H Q := by
  obtain ⟨c, F, ρ, S, P⟩ := t
  refine po_bind S P fun x F1 H1 ρ1 dx s1 S1 r1 P1 => ?_
  refine po_bind S1 P1 fun y F2 H2 ρ2 dy s2 S2 r2 P2 => ?_
  cases ed : o dx dy with
  | none =>
    rw [ed] at P2
    exact P2.elim
  | some d =>
    rw [ed] at P2
    refine q S2.f (Rep.mono s2 r1) r2 ed fun v F3 H3 gr rv => ?_
    have S3 := S2.grow gr
    cases rv with
    | bl b =>
      cases b with
      | true =>
        refine ⟨true, rfl, ?_⟩
        show (if true = true then _ else _)
        rw [if_pos rfl]
        have P3 : Po K π W (relE K) c F2 σ Q ((h ρ2).bind fun w ρ => R.of (o' dy w) ρ) := P2
        refine po_bind S3 (P3.mono gr.f) fun w F4 H4 ρ4 dw s4 S4 r4 P4 => ?_
        obtain ⟨d', e', P5⟩ := po_of P4
        exact q' S4.f (Rep.mono s4 (Rep.mono gr.f r2)) r4 e' fun v F5 H5 gr' rv => P5 v F5 H5 gr'.f (S4.grow gr') rv
      | false =>
        refine ⟨false, rfl, ?_⟩
        show (if false = true then _ else _)
        rw [if_neg Bool.false_ne_true]
        exact P2 (.bl false) F3 H3 gr.f S3 (.bl false)
    | _ => exact P2.elim
theorem fe_chn {op op' : CmpOp} {r r' : R2} {o o' : D → D → Option D} {f g h : EF} (ho : OpR X (compareOp op) r) (ho' : OpR X (compareOp op') r') (q : Op2 X.K o r) (q' : Op2 X.K o' r') (ha : PE X a (tE X.K π W f)) (hb : PE X b (tE X.K π W g)) (hd : PE X d (tE X.K π W h)) (hm : lastMarks [op, op'] [b, d] = false) :
    PE X (.Compare a [op, op'] [b, d] pos) (tE X.K π W (chn o o' f g h)) := PE.imp (pe_chain ho ho' ha hb hd (hm := hm)) fun _ _ _ => rd_chn q q'
theorem ft_chn {op op' : CmpOp} {r r' : R2} {o o' : D → D → Option D} {f g h : EF} (ho : OpR X (compareOp op) r) (ho' : OpR X (compareOp op') r') (q : Op2 X.K o r) (q' : Op2 X.K o' r') (ha : PE X a (tE X.K π W f)) (hb : PE X b (tE X.K π W g)) (hd : PE X d (tE X.K π W h)) (hm : lastMarks [op, op'] [b, d] = false) :
    PT X (.Compare a [op, op'] [b, d] pos) (tT X.K π W (tst (chn o o' f g h))) := PT.imp (pt_chain ho ho' ha hb hd (hm := hm)) fun σ H Q t => by
  obtain ⟨c, F, ρ, S, P⟩ := t
  exact rd_chn (π := π) (W := W) q q' (rd_tst ⟨c, F, ρ, S, P⟩)

/-! ### and, or, not, if -/
def anT (f g : TF) : TF := fun ρ => (f ρ).bind fun b ρ => if b = true then g ρ else .ok false ρ
def orT (f g : TF) : TF := fun ρ => (f ρ).bind fun b ρ => if b = true then .ok true ρ else g ρ
def noT (f : TF) : TF := fun ρ => (f ρ).bind fun b ρ => .ok (!b) ρ
def blE (f : TF) : EF := fun ρ => (f ρ).bind fun b ρ => .ok (.bl b) ρ
def ifE (t : TF) (f g : EF) : EF := fun ρ => (t ρ).bind fun b ρ => if b = true then f ρ else g ρ
def anE (f g : EF) : EF := fun ρ => (tst f ρ).bind fun b ρ => if b = true then g ρ else .ok (.bl false) ρ
def orE (f g : EF) : EF := fun ρ => (tst f ρ).bind fun b ρ => if b = true then .ok (.bl true) ρ else g ρ
section
variable {f g : TF} {rest : List Expr}
theorem fw_and (ha : PT X a (tT X.K π W f)) (hb : PW X (.BoolOp .And (b :: rest) pos) (tT X.K π W g)) : PW X (.BoolOp .And (a :: b :: rest) pos) (tT X.K π W (anT f g)) :=
  PW.imp (pw_and ha hb) fun σ H Q ⟨c, F, ρ, S, P⟩ => by
    refine po_bind S P fun b' F1 H1 ρ1 b1 s1 S1 r1 P1 => ?_
    cases r1
    cases b' with
    | true =>
      rw [if_pos rfl] at P1 ⊢
      exact ⟨c, F1, ρ1, S1, P1⟩
    | false =>
      rw [if_neg Bool.false_ne_true] at P1 ⊢
      exact P1 false F1 H1 (Same.refl _) S1 rfl
theorem fw_or (ha : PT X a (tT X.K π W f)) (hb : PW X (.BoolOp .Or (b :: rest) pos) (tT X.K π W g)) : PW X (.BoolOp .Or (a :: b :: rest) pos) (tT X.K π W (orT f g)) :=
  PW.imp (pw_or ha hb) fun σ H Q ⟨c, F, ρ, S, P⟩ => by
    refine po_bind S P fun b' F1 H1 ρ1 b1 s1 S1 r1 P1 => ?_
    cases r1
    cases b' with
    | true =>
      rw [if_pos rfl] at P1 ⊢
      exact P1 true F1 H1 (Same.refl _) S1 rfl
    | false =>
      rw [if_neg Bool.false_ne_true] at P1 ⊢
      exact ⟨c, F1, ρ1, S1, P1⟩
theorem ft_not (ha : PT X a (tT X.K π W f)) : PT X (.UnaryOp .Not a pos) (tT X.K π W (noT f)) :=
  PT.imp (pt_not ha) fun σ H Q ⟨c, F, ρ, S, P⟩ => by
    refine po_bind S P fun b' F1 H1 ρ1 b1 s1 S1 r1 P1 => ?_
    cases r1
    exact P1 (!b') F1 H1 (Same.refl _) S1 rfl
theorem ft_val {f : EF} (h : PE X e (tE X.K π W f)) (he : ∀ whole, isTrue e X.env whole = (do let v ← whole; standAt e.pos; holding [v] (truthy v)) := by intro _; rfl) : PT X e (tT X.K π W (tst f)) :=
  PT.imp (pt_val h he) fun _ _ _ => rd_tst
theorem fe_not {f : EF} (ha : PE X a (tE X.K π W f)) : PE X (.UnaryOp .Not a pos) (tE X.K π W (blE (noT (tst f)))) :=
  PE.imp (pe_not ha) fun σ H Q ⟨c, F, ρ, S, P⟩ => by
    refine rd_tst (Q := fun k H1 => Q (.bl (!k)) H1) ⟨c, F, ρ, S, ?_⟩
    unfold blE noT at P
    cases ef : tst f ρ with
    | ok b' ρ1 =>
      rw [ef] at P
      have P : Po X.K π W (relE X.K) c F σ Q (.ok (.bl (!b')) ρ1) := P
      exact fun v F1 H1 s1 S1 r1 => by
        cases r1
        exact P _ F1 H1 s1 S1 (.bl _)
    | exc C fs ρ1 => rw [ef] at P; exact P
    | stuck => rw [ef] at P; exact P
theorem fe_and {f g : EF} (ha : PE X a (tE X.K π W f)) (hb : PE X (.BoolOp .And (b :: rest) pos) (tE X.K π W g)) : PE X (.BoolOp .And (a :: b :: rest) pos) (tE X.K π W (anE f g)) :=
  PE.imp (pe_and ha hb) fun σ H Q ⟨c, F, ρ, S, P⟩ => by
    have z : tT X.K π W (tst f) σ H fun k H1 => if k = true then (tE X.K π W g) σ H1 Q else Q (.bl false) H1 := by
      refine po_bind S P fun b' F1 H1 ρ1 b1 s1 S1 r1 P1 => ?_
      cases r1
      cases b' with
      | true =>
        rw [if_pos rfl] at P1 ⊢
        exact ⟨c, F1, ρ1, S1, P1⟩
      | false =>
        rw [if_neg Bool.false_ne_true] at P1 ⊢
        exact P1 _ F1 H1 (Same.refl _) S1 (.bl false)
    exact rd_tst z
theorem fe_or {f g : EF} (ha : PE X a (tE X.K π W f)) (hb : PE X (.BoolOp .Or (b :: rest) pos) (tE X.K π W g)) : PE X (.BoolOp .Or (a :: b :: rest) pos) (tE X.K π W (orE f g)) :=
  PE.imp (pe_or ha hb) fun σ H Q ⟨c, F, ρ, S, P⟩ => by
    have z : tT X.K π W (tst f) σ H fun k H1 => if k = true then Q (.bl true) H1 else (tE X.K π W g) σ H1 Q := by
      refine po_bind S P fun b' F1 H1 ρ1 b1 s1 S1 r1 P1 => ?_
      cases r1
      cases b' with
      | true =>
        rw [if_pos rfl] at P1 ⊢
        exact P1 _ F1 H1 (Same.refl _) S1 (.bl true)
      | false =>
        rw [if_neg Bool.false_ne_true] at P1 ⊢
        exact ⟨c, F1, ρ1, S1, P1⟩
    exact rd_tst z
theorem fe_if {t : TF} {f g : EF} (hc : PT X d (tT X.K π W t)) (ha : PE X a (tE X.K π W f)) (hb : PE X b (tE X.K π W g)) : PE X (.IfExp d a b pos) (tE X.K π W (ifE t f g)) :=
  PE.imp (pe_ifExp hc ha hb) fun σ H Q ⟨c, F, ρ, S, P⟩ => by
    refine po_bind S P fun b' F1 H1 ρ1 b1 s1 S1 r1 P1 => ?_
    cases r1
    cases b' with
    | true =>
      rw [if_pos rfl] at P1 ⊢
      exact ⟨c, F1, ρ1, S1, P1⟩
    | false =>
      rw [if_neg Bool.false_ne_true] at P1 ⊢
      exact ⟨c, F1, ρ1, S1, P1⟩
/-- truth of any value -/
def truD : D → Option Bool
  | .non => some false
  | .bl b => some b
  | .int i => some (i != 0)
  | .str x => if x.length ≤ 100000 then some (x.length != 0) else none
  | .tup xs => some (!xs.isEmpty)
  | .lst xs => some (!xs.isEmpty)
  | _ => none
def tru (f : EF) : TF := fun ρ => (f ρ).bind fun x ρ => R.of (truD x) ρ
theorem le_line {n : Nat} (h : n ≤ 100000) : n ≤ sizeLine := Nat.le_trans h (by decide)
theorem lt_line {n : Nat} (h : n ≤ 100000) : n < sizeLine := Nat.lt_of_le_of_lt h (by decide)
end

/-! ### argument lists, displays -/
def nilA : Rho → R (List D) := fun ρ => .ok [] ρ
def cnsA (f : EF) (g : Rho → R (List D)) : Rho → R (List D) := fun ρ => (f ρ).bind fun x ρ => (g ρ).bind fun xs ρ => .ok (x :: xs) ρ
theorem fa_nil : PA X [] (tA X.K π W nilA) := PA.imp pa_nil fun σ H Q ⟨c, F, ρ, S, P⟩ => P [] F H (Same.refl _) S .nil
theorem fa_cons {f : EF} {g : Rho → R (List D)} (ha : PE X e (tE X.K π W f)) (hr : PA X es (tA X.K π W g)) (hs : starEach (e :: es) X.env = (false, eval e X.env) :: starEach es X.env := by rfl) : PA X (e :: es) (tA X.K π W (cnsA f g)) :=
  PA.imp (pa_cons ha hr hs) fun σ H Q ⟨c, F, ρ, S, P⟩ => by
    refine po_bind S P fun x F1 H1 ρ1 dx s1 S1 r1 P1 => ?_
    refine po_bind S1 P1 fun xs F2 H2 ρ2 ds s2 S2 r2 P2 => ?_
    exact P2 (x :: xs) F2 H2 (Same.refl _) S2 (.cons (Rep.mono s2 r1) r2)
def small (n : Nat) : Bool := decide (n ≤ 100000)
theorem small_le {n : Nat} (h : small n = true) : n ≤ 100000 := of_decide_eq_true h
def dTup (g : Rho → R (List D)) : EF := fun ρ => (g ρ).bind fun xs ρ => if small xs.length = true then .ok (.tup xs) ρ else .stuck
def dLst (g : Rho → R (List D)) : Rho → R M := fun ρ => (g ρ).bind fun xs ρ => if small xs.length = true then .ok (.lst xs) ρ else .stuck
theorem fe_tup {x1} {g : Rho → R (List D)} (h : PA X es (tA X.K π W g)) : PE X (.Tuple es x1 pos) (tE X.K π W (dTup g)) :=
  PE.imp (pe_tup h) fun σ H Q ⟨c, F, ρ, S, P⟩ => by
    refine po_bind S P fun xs F1 H1 ρ1 ds s1 S1 r1 P1 => ?_
    split at P1
    · rename_i hz
      have hl : xs.length ≤ 100000 := by rw [Reps.length r1]; exact small_le hz
      refine ⟨le_line hl, fun p hp => ?_⟩
      have gr := Grw.newF (o := .tup xs) S1.f hp
      exact P1 _ _ _ gr.f (S1.grow gr) (.tup (SqT.of upd_same) (Reps.mono gr.f r1))
    · exact P1.elim
theorem Sta.fresh {K : PySem.W.Frag} {c : Cfg} {F H : Hp} {σ : L2.St} {ρ : Rho} (S : Sta K π c F H σ ρ) {q : Addr} (h : H q = none) : F q = none ∧ c.H0 q = none ∧ ∀ j, ¬ OwnAt σ ρ j q := by
  refine ⟨Same.free S.f h, ?_, fun j hj => ?_⟩
  · cases e : c.H0 q with
    | none => rfl
    | some o =>
      obtain ⟨o', e'⟩ := S.any e
      rw [h] at e'
      cases e'
  · obtain ⟨o, e⟩ := (S.ownAt hj).2.2
    rw [h] at e
    cases e
theorem fm_lst {g : Rho → R (List D)} (h : PA X es (tA X.K π W g)) : PE X (.List es pos) (tM X.K π W (dLst g)) :=
  PE.imp (pe_lst h) fun σ H Q ⟨c, F, ρ, S, P⟩ => by
    refine po_bind S P fun xs F1 H1 ρ1 ds s1 S1 r1 P1 => ?_
    split at P1
    · rename_i hz
      have hl : xs.length ≤ 100000 := by rw [Reps.length r1]; exact small_le hz
      refine ⟨le_line hl, fun p hp => ?_⟩
      have gr := Grw.newO (o := .lst xs) S1.f hp
      obtain ⟨f1, f2, f3⟩ := S1.fresh hp
      exact P1 _ _ _ gr.f (S1.grow gr) ⟨p, rfl, f1, f2, f3, xs, upd_same, r1⟩
    · exact P1.elim
/-- a new list, as data -/
def frz (f : Rho → R M) : EF := fun ρ => (f ρ).bind fun m ρ => match m with
  | .lst ds => .ok (.lst ds) ρ
  | .ins _ _ => .stuck
theorem fe_frz {f : Rho → R M} (h : PE X e (tM X.K π W f)) : PE X e (tE X.K π W (frz f)) :=
  PE.imp h fun σ H Q ⟨c, F, ρ, S, P⟩ => by
    refine po_bind S P fun v F1 H1 ρ1 m s1 S1 r1 P1 => ?_
    obtain ⟨p, rfl, f1, f2, f3, hm⟩ := r1
    cases m with
    | ins C fs => exact P1.elim
    | lst ds =>
      obtain ⟨vs, ho, r⟩ := hm
      have sm : Same F1 (upd F1 p (.lst vs)) := sm_new f1
      refine P1 (.ref p) (upd F1 p (.lst vs)) H1 sm ?_ (.lst upd_same (Reps.mono sm r))
      refine ⟨S1.h0, S1.hio, S1.f0.trans sm, fun a u q => ?_, fun q o e n => ?_, S1.len, fun i s hs => ?_, S1.dis⟩
      · by_cases z : a = p
        · subst z
          rw [upd_same] at q
          cases q
          exact ho
        · rw [upd_ne z] at q
          exact S1.f _ _ q
      · rw [upd_ne (fun z => by subst z; rw [f2] at e; cases e)]
        exact S1.nf q o e n
      · have z := S1.rep i s hs
        cases s with
        | no => trivial
        | val d => obtain ⟨w, e1, q⟩ := z; exact ⟨w, e1, q.mono sm⟩
        | own m' =>
          obtain ⟨q, e1, e2, e3, q1⟩ := z
          have nq : q ≠ p := fun w => by subst w; exact f3 i ⟨e1, m', .inl hs⟩
          exact ⟨q, e1, by rw [upd_ne nq]; exact e2, e3, q1.mono sm fun _ hu => hu⟩
        | io m' =>
          obtain ⟨e1, e2, e3, q1⟩ := z
          have nq : π i ≠ p := fun w => by rw [w] at e1; exact f3 i ⟨e1, m', .inr hs⟩
          exact ⟨e1, by rw [upd_ne nq]; exact e2, e3, q1.mono sm fun _ hu => hu⟩
end
end FL
/-! FL3: operations on data. -/
namespace FL
open PySem PySem.Spec PyProof.Rows L2

/-! ### data as the library's data -/
mutual
def toP : D → PyData
  | .non => .none
  | .bl b => .bool b
  | .int i => .int i
  | .str x => .str x
  | .tup xs => .tuple (toPs xs)
  | .lst xs => .list (toPs xs)
  | .scr _ => .none
  | .fn _ => .none
  | .dct _ => .none
  | .exc _ _ => .none
def toPs : List D → List PyData
  | [] => []
  | x :: xs => toP x :: toPs xs
end
theorem toPs_eq : ∀ xs : List D, toPs xs = xs.map toP
  | [] => rfl
  | x :: xs => by rw [toPs, toPs_eq xs, List.map_cons]
/-- plain data, at most n deep -/
def shp : Nat → D → Bool
  | _, .non => true
  | _, .bl _ => true
  | _, .int _ => true
  | _, .str x => PyData.strOk x
  | n + 1, .tup xs => xs.all (shp n)
  | n + 1, .lst xs => xs.all (shp n)
  | _, _ => false
theorem shp_all {n : Nat} : ∀ {xs : List D}, (∀ x, shp n x = true → (toP x).canLay0 = true ∧ (toP x).depth ≤ n) → xs.all (shp n) = true → PyData.canLayAll0 (toPs xs) = true ∧ PyData.depthAll (toPs xs) ≤ n
  | [], _, _ => ⟨by simp [toPs, PyData.canLayAll0], by simp [toPs, PyData.depthAll]⟩
  | x :: xs, h, e => by
    rw [List.all_cons, Bool.and_eq_true] at e
    obtain ⟨h1, h2⟩ := h x e.1
    obtain ⟨h3, h4⟩ := shp_all (n := n) h e.2
    simp only [toPs, PyData.canLayAll0, PyData.depthAll, h1, h3, Bool.and_self, true_and]
    omega
theorem shp_ok : ∀ (n : Nat) (d : D), shp n d = true → (toP d).canLay0 = true ∧ (toP d).depth ≤ n
  | n, .non, _ => ⟨by simp [toP, PyData.canLay0], by simp [toP, PyData.depth]⟩
  | n, .bl _, _ => ⟨by simp [toP, PyData.canLay0], by simp [toP, PyData.depth]⟩
  | n, .int _, _ => ⟨by simp [toP, PyData.canLay0], by simp [toP, PyData.depth]⟩
  | n, .str x, h => ⟨by simpa [toP, PyData.canLay0, shp] using h, by simp [toP, PyData.depth]⟩
  | n + 1, .tup xs, h => by
    obtain ⟨h1, h2⟩ := shp_all (n := n) (shp_ok n) (by simpa [shp] using h)
    simp only [toP, PyData.canLay0, PyData.depth, h1, true_and]
    omega
  | n + 1, .lst xs, h => by
    obtain ⟨h1, h2⟩ := shp_all (n := n) (shp_ok n) (by simpa [shp] using h)
    simp only [toP, PyData.canLay0, PyData.depth, h1, true_and]
    omega
  | 0, .tup xs, h => by simp [shp] at h
  | 0, .lst xs, h => by simp [shp] at h
  | n, .scr _, h => by cases n <;> simp [shp] at h
  | n, .fn _, h => by cases n <;> simp [shp] at h
  | n, .dct _, h => by cases n <;> simp [shp] at h
  | n, .exc _ _, h => by cases n <;> simp [shp] at h
section
variable {K : PySem.W.Frag} {F H : Hp}
theorem dpAll_of {n : Nat} (h : ∀ v d, shp n d = true → Rep K F v d → Dp K H v (toP d)) : ∀ {vs : List V} {ds : List D}, ds.all (shp n) = true → Reps K F vs ds → DpAll K H vs (toPs ds)
  | _, _, _, .nil => by rw [toPs]; exact .nil
  | _, _, e, .cons r rs => by
    rw [List.all_cons, Bool.and_eq_true] at e
    rw [toPs]
    exact .cons (h _ _ e.1 r) (dpAll_of h e.2 rs)
theorem dp_of (s : Same F H) : ∀ (n : Nat) (v : V) (d : D), shp n d = true → Rep K F v d → Dp K H v (toP d)
  | n, _, .non, _, .non => by rw [toP]; exact .non
  | n, _, .bl _, _, .bl _ => by rw [toP]; exact .bl _
  | n, _, .int _, _, .int _ => by rw [toP]; exact .int _
  | n, _, .str _, _, .str _ => by rw [toP]; exact .str _
  | n + 1, _, .tup xs, h, .tup q r => by rw [toP]; exact .tup (sm_tup s q) (dpAll_of (dp_of s n) (by simpa [shp] using h) r)
  | n + 1, _, .lst xs, h, .lst q r => by rw [toP]; exact .lst (SqL.of (s _ _ q)) (dpAll_of (dp_of s n) (by simpa [shp] using h) r)
  | 0, _, .tup xs, h, _ => by simp [shp] at h
  | 0, _, .lst xs, h, _ => by simp [shp] at h
  | n, _, .scr _, h, _ => by cases n <;> simp [shp] at h
  | n, _, .fn _, h, _ => by cases n <;> simp [shp] at h
  | n, _, .dct _, h, _ => by cases n <;> simp [shp] at h
  | n, _, .exc _ _, h, _ => by cases n <;> simp [shp] at h
end
theorem shaped_of {d : D} (h : shp 8 d = true) : SeqAt.shaped (toP d) = true := by
  obtain ⟨h1, h2⟩ := shp_ok 8 d h
  unfold SeqAt.shaped
  rw [h1, Bool.true_and]
  exact decide_eq_true (by omega)
def eqd (x y : D) : Bool := PyData.eqv (toP x) (toP y)
def eqds (xs ys : List D) : Bool := PyData.eqvAll (toPs xs) (toPs ys)
def eqD (x y : D) : Option D := if shp 8 x = true ∧ shp 8 y = true then some (.bl (eqd x y)) else none
def neD (x y : D) : Option D := if shp 8 x = true ∧ shp 8 y = true then some (.bl (!eqd x y)) else none

/-! ### arithmetic -/
def addD : D → D → Option D
  | .int a, .int b => some (.int (a + b))
  | .str a, .str b => if small (a.length + b.length) = true then some (.str (a ++ b)) else none
  | .lst xs, .lst ys => if small (xs.length + ys.length) = true then some (.lst (xs ++ ys)) else none
  | .tup xs, .tup ys => if small (xs.length + ys.length) = true then some (.tup (xs ++ ys)) else none
  | _, _ => none
def subD : D → D → Option D
  | .int a, .int b => some (.int (a - b))
  | _, _ => none
def mulOk (a b : Int) : Bool := decide (a.natAbs < 2 ^ 64) || decide (b.natAbs < 2 ^ 64) || decide (a.natAbs.log2 + b.natAbs.log2 < 1000000)
def mulD : D → D → Option D
  | .int a, .int b => if mulOk a b = true then some (.int (a * b)) else none
  | .lst xs, .int k => if 0 ≤ k ∧ k ≤ 100000 ∧ xs.length * k.toNat ≤ 100000 then some (.lst (List.replicate k.toNat xs).flatten) else none
  | .tup xs, .int k => if 2 ≤ k ∧ k ≤ 1000 ∧ xs.length ≤ 1000 ∧ xs ≠ [] then some (.tup (List.replicate k.toNat xs).flatten) else none
  | _, _ => none
def fdivD : D → D → Option D
  | .int a, .int b => if (b ≠ 0 ∧ b.natAbs < 1073741824) ∨ (0 < b ∧ b.natAbs.log2 < 9000) then some (.int (a.fdiv b)) else none
  | _, _ => none
def modD : D → D → Option D
  | .int a, .int b => if b ≠ 0 then some (.int (a.fmod b)) else none
  | _, _ => none
def powD : D → D → Option D
  | .int a, .int b => if 0 ≤ b ∧ b ≤ 1000000 ∧ a.natAbs < 2 ^ 64 then some (.int (a ^ b.toNat)) else none
  | _, _ => none
def negD : D → Option D
  | .int a => some (.int (-a))
  | _ => none
def cmpD (p : Int → Int → Bool) : D → D → Option D
  | .int a, .int b => some (.bl (p a b))
  | _, _ => none
def ltD := cmpD fun a b => decide (a < b)
def leD := cmpD fun a b => decide (a ≤ b)
def gtD := cmpD fun a b => decide (b < a)
def geD := cmpD fun a b => decide (b ≤ a)
def isNon : D → Bool
  | .non => true
  | _ => false
def isD : D → D → Option D
  | x, .non => some (.bl (isNon x))
  | .bl a, .bl b => some (.bl (decide (a = b)))
  | _, _ => none
def nisD : D → D → Option D
  | x, .non => some (.bl (!isNon x))
  | .bl a, .bl b => some (.bl (!decide (a = b)))
  | _, _ => none
def flatD : D → Bool
  | .non => true
  | .bl _ => true
  | .int _ => true
  | .str _ => true
  | _ => false
def inD : D → D → Option D
  | x, .lst ys => if shp 7 x = true ∧ ys.all (shp 7) = true then some (.bl (ys.any fun y => eqd y x)) else none
  | x, .tup ys => if flatD x = true ∧ ys.all flatD = true then some (.bl (ys.any fun y => eqd y x)) else none
  | .str c, .str z => match c.cps.toList with
    | [n] => some (.bl (decide (n ∈ z.cps.toList)))
    | _ => none
  | _, _ => none
def ninD (x y : D) : Option D := match inD x y with
  | some (.bl b) => some (.bl (!b))
  | _ => none

section
variable {X : Cx} {K : PySem.W.Frag}
theorem Rep.inv_int {F : Hp} {v : V} {i : Int} (h : Rep K F v (.int i)) : v = .int i := by cases h; rfl
theorem q_add : Op2 K addD (fun x y H Q => (rI0 fun i j => .int (i + j)) x y H Q ∨ (∃ i j, x = V.str i ∧ y = V.str j ∧ i.length + j.length ≤ sizeLine ∧ Q (.str (i ++ j)) H) ∨ rCat x y H Q ∨ rCatA K x y H Q) := by
  intro F H x y dx dy d Q s rx ry e k
  cases rx <;> cases ry <;> first | (cases e; done) | skip
  · rename_i i j
    cases e
    exact .inl ⟨i, j, rfl, rfl, k _ F H (Grw.refl s) (.int _)⟩
  · rename_i i j
    simp only [addD] at e
    split at e
    · rename_i hz
      cases e
      exact .inr (.inl ⟨i, j, rfl, rfl, le_line (small_le hz), k _ F H (Grw.refl s) (.str _)⟩)
    · cases e
  · rename_i a xs ds h1 r1 b ys es h2 r2
    simp only [addD] at e
    split at e
    · rename_i hz
      cases e
      have hl : xs.length + ys.length ≤ 100000 := by rw [Reps.length r1, Reps.length r2]; exact small_le hz
      refine .inr (.inr (.inr ⟨a, b, xs, ys, rfl, rfl, sm_tup s h1, sm_tup s h2, le_line hl, fun z => ?_, fun z1 z2 => ?_, fun z1 z2 p hp => ?_⟩))
      · subst z
        cases r1
        exact k _ F H (Grw.refl s) (.tup h2 r2)
      · subst z2
        cases r2
        rw [List.append_nil] at *
        exact k _ F H (Grw.refl s) (.tup h1 r1)
      · have g := Grw.newF (o := .tup (xs ++ ys)) s hp
        exact k _ _ _ g (.tup (SqT.of upd_same) ((Reps.mono g.f r1).append (Reps.mono g.f r2)))
    · cases e
  · rename_i a xs ds h1 r1 b ys es h2 r2
    simp only [addD] at e
    split at e
    · rename_i hz
      cases e
      have hl : xs.length + ys.length ≤ 100000 := by rw [Reps.length r1, Reps.length r2]; exact small_le hz
      refine .inr (.inr (.inl ⟨a, b, xs, ys, rfl, rfl, s _ _ h1, s _ _ h2, le_line hl, fun p hp => ?_⟩))
      have g := Grw.newF (o := .lst (xs ++ ys)) s hp
      exact k _ _ _ g (.lst upd_same ((Reps.mono g.f r1).append (Reps.mono g.f r2)))
    · cases e
theorem o_add : OpR X (binaryOp .Add) (fun x y H Q => (rI0 fun i j => .int (i + j)) x y H Q ∨ (∃ i j, x = V.str i ∧ y = V.str j ∧ i.length + j.length ≤ sizeLine ∧ Q (.str (i ++ j)) H) ∨ rCat x y H Q ∨ rCatA X.K x y H Q) :=
  op_add.or (op_add_str.or (op_cat.or op_catA))
theorem q_sub : Op2 K subD (rI0 fun i j => .int (i - j)) := by
  intro F H x y dx dy d Q s rx ry e k
  cases rx <;> cases ry <;> first | (cases e; done) | skip
  rename_i i j
  cases e
  exact ⟨i, j, rfl, rfl, k _ F H (Grw.refl s) (.int _)⟩
theorem Reps.rep {F : Hp} {vs : List V} {ds : List D} (r : Reps K F vs ds) : ∀ n : Nat, Reps K F (List.replicate n vs).flatten (List.replicate n ds).flatten
  | 0 => .nil
  | n + 1 => by
    rw [List.replicate_succ, List.replicate_succ, List.flatten_cons, List.flatten_cons]
    exact r.append (Reps.rep r n)
theorem q_mul : Op2 K mulD (fun x y H Q => (rI CMul fun i j => .int (i * j)) x y H Q ∨ (rI CMulW fun i j => .int (i * j)) x y H Q ∨ rRep x y H Q ∨ rRepT K x y H Q) := by
  intro F H x y dx dy d Q s rx ry e k
  cases rx <;> cases ry <;> first | (cases e; done) | skip
  · rename_i i j
    simp only [mulD] at e
    split at e
    · rename_i hz
      cases e
      have q := k _ F H (Grw.refl s) (.int (i * j))
      unfold mulOk at hz
      rw [Bool.or_eq_true, Bool.or_eq_true, decide_eq_true_eq, decide_eq_true_eq, decide_eq_true_eq] at hz
      rcases hz with (hz | hz) | hz
      · exact .inl ⟨i, j, rfl, rfl, .inl (by omega), q⟩
      · exact .inl ⟨i, j, rfl, rfl, .inr (by omega), q⟩
      · exact .inr (.inl ⟨i, j, rfl, rfl, hz, q⟩)
    · cases e
  · rename_i a xs ds h1 r1 j
    simp only [mulD] at e
    split at e
    · rename_i hz
      cases e
      obtain ⟨z1, z2, z3, z4⟩ := hz
      refine .inr (.inr (.inr ⟨a, j, xs, rfl, rfl, sm_tup s h1, fun z => ?_, z1, z2, by rw [Reps.length r1]; exact z3, fun p hp => ?_⟩))
      · subst z
        cases r1
        exact z4 rfl
      · have g := Grw.newF (o := .tup (List.replicate j.toNat xs).flatten) s hp
        exact k _ _ _ g (.tup (SqT.of upd_same) ((Reps.mono g.f r1).rep _))
    · cases e
  · rename_i a xs ds h1 r1 j
    simp only [mulD] at e
    split at e
    · rename_i hz
      cases e
      obtain ⟨z1, z2, z3⟩ := hz
      refine .inr (.inr (.inl ⟨a, j, xs, rfl, rfl, s _ _ h1, by omega, by omega, le_line (by rw [Reps.length r1]; exact z3), fun p hp => ?_⟩))
      have g := Grw.newF (o := .lst (List.replicate j.toNat xs).flatten) s hp
      exact k _ _ _ g (.lst upd_same ((Reps.mono g.f r1).rep _))
    · cases e
theorem o_mul : OpR X (binaryOp .Mult) (fun x y H Q => (rI CMul fun i j => .int (i * j)) x y H Q ∨ (rI CMulW fun i j => .int (i * j)) x y H Q ∨ rRep x y H Q ∨ rRepT X.K x y H Q) :=
  op_mul.or (op_mulW.or (op_rep.or op_repT))
theorem q_fdiv : Op2 K fdivD (fun x y H Q => (rI CDivN fun i j => .int (i.fdiv j)) x y H Q ∨ (rI CDivW fun i j => .int (i / j)) x y H Q) := by
  intro F H x y dx dy d Q s rx ry e k
  cases rx <;> cases ry <;> first | (cases e; done) | skip
  rename_i i j
  simp only [fdivD] at e
  split at e
  · rename_i hz
    cases e
    have q := k _ F H (Grw.refl s) (.int (i.fdiv j))
    rcases hz with hz | hz
    · exact .inl ⟨i, j, rfl, rfl, hz, q⟩
    · rw [Int.fdiv_eq_ediv_of_nonneg i (Int.le_of_lt hz.1)] at q
      exact .inr ⟨i, j, rfl, rfl, hz, q⟩
  · cases e
theorem o_fdiv : OpR X (binaryOp .FloorDiv) (fun x y H Q => (rI CDivN fun i j => .int (i.fdiv j)) x y H Q ∨ (rI CDivW fun i j => .int (i / j)) x y H Q) := op_fdivN.or op_fdivW
theorem q_mod : Op2 K modD (rI (fun _ j => j ≠ 0) fun i j => .int (i.fmod j)) := by
  intro F H x y dx dy d Q s rx ry e k
  cases rx <;> cases ry <;> first | (cases e; done) | skip
  rename_i i j
  simp only [modD] at e
  split at e
  · rename_i hz
    cases e
    exact ⟨i, j, rfl, rfl, hz, k _ F H (Grw.refl s) (.int _)⟩
  · cases e
theorem q_pow : Op2 K powD (rI CPow fun i j => .int (i ^ j.toNat)) := by
  intro F H x y dx dy d Q s rx ry e k
  cases rx <;> cases ry <;> first | (cases e; done) | skip
  rename_i i j
  simp only [powD] at e
  split at e
  · rename_i hz
    cases e
    exact ⟨i, j, rfl, rfl, hz, k _ F H (Grw.refl s) (.int _)⟩
  · cases e
theorem q_neg : Op1 K negD (rU fun i => .int (-i)) := by
  intro F H x dx d Q s rx e k
  cases rx <;> first | (cases e; done) | skip
  rename_i i
  cases e
  exact ⟨i, rfl, k _ F H (Grw.refl s) (.int _)⟩
theorem q_cmp {p : Int → Int → Bool} : Op2 K (cmpD p) (rI0 fun i j => .bl (p i j)) := by
  intro F H x y dx dy d Q s rx ry e k
  cases rx <;> cases ry <;> first | (cases e; done) | skip
  rename_i i j
  cases e
  exact ⟨i, j, rfl, rfl, k _ F H (Grw.refl s) (.bl _)⟩
theorem isNon_rep {F : Hp} {v : V} {d : D} (h : Rep K F v d) : decide (v = .non) = isNon d := by cases h <;> rfl
theorem q_is : Op2 K isD (fun x y H Q => (y = .non ∧ Q (.bl (decide (x = .non))) H) ∨ rIsB x y H Q) := by
  intro F H x y dx dy d Q s rx ry e k
  cases ry with
  | non =>
    have e : some (D.bl (isNon dx)) = some d := by cases dx <;> exact e
    cases e
    exact .inl ⟨rfl, by rw [isNon_rep rx]; exact k _ F H (Grw.refl s) (.bl _)⟩
  | bl b =>
    cases rx <;> first | (cases e; done) | skip
    rename_i a
    cases e
    exact .inr ⟨a, b, rfl, rfl, k _ F H (Grw.refl s) (.bl _)⟩
  | _ => cases rx <;> cases e
theorem o_is : OpR X (compareOp .Is) (fun x y H Q => (y = .non ∧ Q (.bl (decide (x = .non))) H) ∨ rIsB x y H Q) := op_isN.or op_isBl
theorem q_nis : Op2 K nisD (fun x y H Q => (y = .non ∧ Q (.bl (!decide (x = .non))) H) ∨ rNotB x y H Q) := by
  intro F H x y dx dy d Q s rx ry e k
  cases ry with
  | non =>
    have e : some (D.bl (!isNon dx)) = some d := by cases dx <;> exact e
    cases e
    exact .inl ⟨rfl, by rw [isNon_rep rx]; exact k _ F H (Grw.refl s) (.bl _)⟩
  | bl b =>
    cases rx <;> first | (cases e; done) | skip
    rename_i a
    cases e
    exact .inr ⟨a, b, rfl, rfl, k _ F H (Grw.refl s) (.bl _)⟩
  | _ => cases rx <;> cases e
theorem o_nis : OpR X (compareOp .IsNot) (fun x y H Q => (y = .non ∧ Q (.bl (!decide (x = .non))) H) ∨ rNotB x y H Q) := op_notN.or op_notBl
theorem q_eq : Op2 K eqD (rEqD K) := by
  intro F H x y dx dy d Q s rx ry e k
  unfold eqD at e
  split at e
  · rename_i hz
    cases e
    exact ⟨_, _, dp_of s 8 _ _ hz.1 rx, dp_of s 8 _ _ hz.2 ry, shaped_of hz.1, shaped_of hz.2, k _ F H (Grw.refl s) (.bl _)⟩
  · cases e
theorem q_ne : Op2 K neD (rNeD K) := by
  intro F H x y dx dy d Q s rx ry e k
  unfold neD at e
  split at e
  · rename_i hz
    cases e
    exact ⟨_, _, dp_of s 8 _ _ hz.1 rx, dp_of s 8 _ _ hz.2 ry, shaped_of hz.1, shaped_of hz.2, k _ F H (Grw.refl s) (.bl _)⟩
  · cases e
theorem flat_rep {F : Hp} {v : V} {d : D} (r : Rep K F v d) (h : flatD d = true) : flatV v = true := by cases r <;> first | rfl | cases h
theorem flats_rep {F : Hp} : ∀ {vs : List V} {ds : List D}, Reps K F vs ds → ds.all flatD = true → vs.all flatV = true
  | _, _, .nil, _ => rfl
  | _, _, .cons r rs, h => by
    rw [List.all_cons, Bool.and_eq_true] at h ⊢
    exact ⟨flat_rep r h.1, flats_rep rs h.2⟩
theorem eqv_rep {F : Hp} {x y : V} {dx dy : D} (r : Rep K F x dx) (q : Rep K F y dy) (h : flatD dx = true) (h' : flatD dy = true) : eqV x y = eqd dx dy := by
  cases r <;> cases q <;> first | (cases h; done) | (cases h'; done) | (simp [eqd, toP, PyData.eqv, eqV]; done) | (simp only [eqd, toP, PyData.eqv, eqV]; done) | rfl
theorem anyv_rep {F : Hp} {x : V} {dx : D} (r : Rep K F x dx) (h : flatD dx = true) : ∀ {vs : List V} {ds : List D}, Reps K F vs ds → ds.all flatD = true → (vs.any fun y => eqV y x) = ds.any fun y => eqd y dx
  | _, _, .nil, _ => rfl
  | _, _, .cons q qs, e => by
    rw [List.all_cons, Bool.and_eq_true] at e
    rw [List.any_cons, List.any_cons, eqv_rep q r e.1 h, anyv_rep r h qs e.2]
theorem any_toPs {dx : D} : ∀ ds : List D, ((toPs ds).any fun z => PyData.eqv z (toP dx)) = ds.any fun y => eqd y dx
  | [] => rfl
  | d :: ds => by
    rw [toPs, List.any_cons, List.any_cons, any_toPs ds]
    rfl
theorem shp_mono1 : ∀ (n : Nat) (d : D), shp n d = true → shp (n + 1) d = true
  | n, .non, _ => by simp [shp]
  | n, .bl _, _ => by simp [shp]
  | n, .int _, _ => by simp [shp]
  | n, .str x, h => by simpa [shp] using h
  | n + 1, .tup xs, h => by
    simp only [shp, List.all_eq_true] at h ⊢
    exact fun x hx => shp_mono1 n x (h x hx)
  | n + 1, .lst xs, h => by
    simp only [shp, List.all_eq_true] at h ⊢
    exact fun x hx => shp_mono1 n x (h x hx)
  | 0, .tup xs, h => by simp [shp] at h
  | 0, .lst xs, h => by simp [shp] at h
  | n, .scr _, h => by cases n <;> simp [shp] at h
  | n, .fn _, h => by cases n <;> simp [shp] at h
  | n, .dct _, h => by cases n <;> simp [shp] at h
  | n, .exc _ _, h => by cases n <;> simp [shp] at h
def rInA (K : PySem.W.Frag) : R2 := fun x y H Q => rInD K x y H Q ∨ rIn K false x y H Q ∨ (∃ (c : Nat) (z : Str), x = .str ⟨#[c]⟩ ∧ y = .str z ∧ Q (.bl (decide (c ∈ z.cps.toList))) H)
theorem str_one {c : Str} {n : Nat} (h : c.cps.toList = [n]) : c = ⟨#[n]⟩ := by
  obtain ⟨a⟩ := c
  congr 1
  exact Array.toList_inj.mp h
theorem in_cases {F H : Hp} {x y : V} {dx dy d : D} {Q : VK} (s : Same F H) (rx : Rep K F x dx) (ry : Rep K F y dy) (e : inD dx dy = some d) :
    ∃ b, d = .bl b ∧ (((∃ p q, Dp K H x p ∧ Dp K H y (.list q) ∧ SeqAt.shaped p = true ∧ SeqAt.shaped (.list q) = true ∧ (q.any fun z => PyData.eqv z p) = b)) ∨ (∃ p xs, y = .ref p ∧ (SqL K H p xs ∨ SqT K H p xs) ∧ flatV x = true ∧ xs.all flatV = true ∧ inV x xs = b) ∨
      (∃ (c : Nat) (z : Str), x = .str ⟨#[c]⟩ ∧ y = .str z ∧ decide (c ∈ z.cps.toList) = b)) := by
  cases ry with
  | @lst a ys ds h1 r1 =>
    have e : (if shp 7 dx = true ∧ ds.all (shp 7) = true then some (D.bl (ds.any fun y => eqd y dx)) else none) = some d := by cases dx <;> exact e
    split at e
    · rename_i hz
      cases e
      have e8 : shp 8 (.lst ds) = true := by simpa [shp] using hz.2
      refine ⟨_, rfl, .inl ⟨_, _, dp_of s 7 _ _ hz.1 rx, ?_, shaped_of (shp_mono1 7 _ hz.1), ?_, any_toPs ds⟩⟩
      · have z := dp_of s 8 _ _ e8 (Rep.lst (K := K) h1 r1)
        rw [toP] at z
        exact z
      · have z := shaped_of e8
        rw [toP] at z
        exact z
    · cases e
  | @tup a ys ds h1 r1 =>
    have e : (if flatD dx = true ∧ ds.all flatD = true then some (D.bl (ds.any fun y => eqd y dx)) else none) = some d := by cases dx <;> exact e
    split at e
    · rename_i hz
      cases e
      exact ⟨_, rfl, .inr (.inl ⟨a, ys, rfl, .inr (sm_tup s h1), flat_rep rx hz.1, flats_rep r1 hz.2, anyv_rep rx hz.1 r1 hz.2⟩)⟩
    · cases e
  | str z =>
    cases rx with
    | str c =>
      simp only [inD] at e
      split at e
      · rename_i n hn
        cases e
        exact ⟨_, rfl, .inr (.inr ⟨n, z, by rw [str_one hn], rfl, rfl⟩)⟩
      · cases e
    | _ => cases e
  | _ => cases rx <;> cases e
theorem q_in : Op2 K inD (rInA K) := by
  intro F H x y dx dy d Q s rx ry e k
  obtain ⟨b, rfl, h⟩ := in_cases (Q := Q) s rx ry e
  have q := k (.bl b) F H (Grw.refl s) (.bl b)
  rcases h with ⟨p, w, h1, h2, h3, h4, h5⟩ | ⟨p, xs, h1, h2, h3, h4, h5⟩ | ⟨c, z, h1, h2, h3⟩
  · exact .inl ⟨p, w, h1, h2, h3, h4, by rw [h5]; exact q⟩
  · refine .inr (.inl ⟨p, xs, h1, h2, h3, h4, ?_⟩)
    rw [if_neg Bool.false_ne_true, h5]
    exact q
  · exact .inr (.inr ⟨c, z, h1, h2, by rw [h3]; exact q⟩)
theorem o_in (hu : X.A.units + 65 < cLine) : OpR X (compareOp .In) (rInA X.K) := (op_inD hu).or (op_in_seq.or op_in_sign)
def rNinA (K : PySem.W.Frag) : R2 := fun x y H Q => rNotInD K x y H Q ∨ rIn K true x y H Q ∨ (∃ (c : Nat) (z : Str), x = .str ⟨#[c]⟩ ∧ y = .str z ∧ Q (.bl (!decide (c ∈ z.cps.toList))) H)
theorem q_nin : Op2 K ninD (rNinA K) := by
  intro F H x y dx dy d Q s rx ry e k
  unfold ninD at e
  split at e
  · rename_i b0 e0
    cases e
    obtain ⟨b, eb, h⟩ := in_cases (Q := Q) s rx ry e0
    cases eb
    have q := k (.bl (!b0)) F H (Grw.refl s) (.bl _)
    rcases h with ⟨p, w, h1, h2, h3, h4, h5⟩ | ⟨p, xs, h1, h2, h3, h4, h5⟩ | ⟨c, z, h1, h2, h3⟩
    · exact .inl ⟨p, w, h1, h2, h3, h4, by rw [h5]; exact q⟩
    · refine .inr (.inl ⟨p, xs, h1, h2, h3, h4, ?_⟩)
      rw [if_pos rfl, h5]
      exact q
    · exact .inr (.inr ⟨c, z, h1, h2, by rw [h3]; exact q⟩)
  · cases e
theorem o_nin (hu : X.A.units + 65 < cLine) : OpR X (compareOp .NotIn) (rNinA X.K) := (op_notInD hu).or (op_notIn_seq.or op_notIn_sign)
end
end FL
/-! FL4: subscripts, slices, built-in calls. -/
namespace FL
open PySem PySem.Spec PyProof.Rows L2

/-! ### a tuple read backwards -/
section
variable {prog : Program} {w : World} {A : Around} {E : Value → Shared → Prop} {s : Shared}
theorem applied_rev {sl : Addr} {vl vu vs : Value} {n : Nat} {Q : Int × Int × Nat → Shared → Prop} (hs : s.heap.IsSliceOf sl vl vu vs) (pl : IsPart vl none) (pu : IsPart vu none) (ps : IsPart vs (some (-1)))
    (h : Q ((n : Int) - 1, -1, n) s) : wpAny (model prog w) A (Builtin.Slice.sliceApplied (.ref sl) (pure (n : Int))) Q E s := by
  obtain ⟨os, hos, hcs, hds⟩ := id hs
  unfold Builtin.Slice.sliceApplied Builtin.Slice.sliceFields
  refine wpAny_bind (wpAny_bind (wpAny_field hos hds (x := vl) rfl (wpAny_bind (wpAny_field hos hds (x := vu) rfl (wpAny_bind (wpAny_field hos hds (x := vs) rfl (wpAny_pure ?_)))))))
  refine wpAny_bind (HT.slicePart_ ps ?_)
  show wpAny _ _ (if ((-1 : Int) == 0) = true then _ else _) _ _ s
  rw [if_neg (by decide)]
  refine wpAny_bind (HT.slicePart_ pl (wpAny_bind (HT.slicePart_ pu (wpAny_bind (wpAny_pure ?_)))))
  have ea : Builtin.Slice.sliceAdjust none none (-1) (n : Int) = ((n : Int) - 1, -1) := by
    unfold Builtin.Slice.sliceAdjust
    have h1 : ((-1 : Int) < 0) := by omega
    simp only [h1, if_true]
  show wpAny _ _ (match Builtin.Slice.sliceAdjust none none (-1) (n : Int) with | (lo, hi) => pure (lo, (-1 : Int), Builtin.Slice.slicePlaces lo hi (-1))) _ _ s
  rw [ea]
  show wpAny _ _ (pure ((n : Int) - 1, (-1 : Int), Builtin.Slice.slicePlaces ((n : Int) - 1) (-1) (-1))) _ _ s
  have ep : Builtin.Slice.slicePlaces ((n : Int) - 1) (-1) (-1) = n := by
    unfold Builtin.Slice.slicePlaces
    have h1 : ¬ ((-1 : Int) > 0) := by omega
    simp only [h1, if_false]
    have e2 : (-(-1) : Int) = 1 := by omega
    rw [e2, Int.ediv_one]
    split <;> omega
  rw [ep]
  exact wpAny_pure h
theorem pick_rev (xs : Array Value) : ((List.range xs.size).filterMap fun (m : Nat) => xs[((xs.size : Int) - 1 + (m : Int) * (-1)).toNat]?).toArray = xs.toList.reverse.toArray := by
  have h := PySem.W.krv_pick xs
  unfold slicePick at h
  rw [PySem.W.krv_bounds] at h
  have h : ((sliceRange ((xs.size : Int) - 1) (-1) (-1)).filterMap (xs[·]?)).toArray = xs.toList.reverse.toArray := h
  rw [PySem.W.krv_sliceRange, List.filterMap_map] at h
  rw [← h]
  congr 1
  congr 1
  funext m
  show xs[((xs.size : Int) - 1 + (m : Int) * (-1)).toNat]? = xs[xs.size - 1 - m]?
  congr 1
  omega
theorem item_tuple_rev {t sl : Addr} {items : Array Value} {vl vu vs : Value} {Q : Value → Shared → Prop} (ht : IsTup s.heap t items) (hs : s.heap.IsSliceOf sl vl vu vs) (pl : IsPart vl none) (pu : IsPart vu none) (ps : IsPart vs (some (-1)))
    (h : Q (.ref s.heap.objs.size) { s with heap := s.heap.push { cls := .type "tuple", data := .seq items.toList.reverse.toArray } })
    (hsz : items.size ≤ sizeLine) : wpAny (model prog w) A (getItem (.ref t) (.ref sl)) Q E s := by
  have htake : sizeOk (.seq items.toList.reverse.toArray) := by
    show items.toList.reverse.toArray.size ≤ sizeLine
    rw [List.size_toArray, List.length_reverse, Array.length_toList]
    exact hsz
  obtain ⟨os, hos, hcs, hds⟩ := id hs
  have hTs : s.TypeIs (.ref sl) "slice" := ⟨os, hos, hcs⟩
  unfold getItem
  try with_reducible refine wpAny_holding ?_
  first | refine wpAny_bind (wpAny_pure ?_) | skip
  refine wpAny_bind (wpAny_sequenceKey ht.typeIs (by decide) ?_)
  refine wpAny_bind (wpAny_callSpecial?_slot (name := Str.ofString "__getitem__") ht.typeIs PyProof.Rows.slot_tuple_getitem
    (wpAny_call_entry PyProof.Rows.slot_tuple_getitem ht.typeIs entry_tuple_getitem ?_ (args_tuple_getitem _ _)))
  show wpAny _ _ (Builtin.Tuple.tupleItemsOf (.ref t) >>= _) _ _ s
  refine wpAny_bind (tupleItemsOf_ ht ?_)
  refine wpAny_bind (wpAny_typeOf hTs ?_)
  rw [if_pos (by decide)]
  refine wpAny_bind (applied_rev hs pl pu ps ?_)
  have hno : ¬ ((((items.size : Int) - 1) == 0 && (-1 : Int) == 1 && items.size == items.size) = true) := by
    rw [show ((-1 : Int) == 1) = false by decide, Bool.and_false, Bool.false_and]
    exact Bool.false_ne_true
  show wpAny _ _ (if (((items.size : Int) - 1) == 0 && (-1 : Int) == 1 && items.size == items.size) = true then _ else _) _ _ s
  rw [if_neg hno, pick_rev]
  first
    | exact wpAny_bind (m := Builtin.Tuple.tupleExact _) (wpAny_newObj_type (wpAny_pure ⟨_, rfl, wpAny_pure h⟩) htake)
    | exact wpAny_bind (m := Builtin.Tuple.tupleExact _) (wpAny_newObj_type (wpAny_bind (wpAny_pure (wpAny_pure ⟨_, rfl, wpAny_pure h⟩))) htake)
    | exact wpAny_bind (wpAny_bind (m := Builtin.Tuple.tupleExact _) (wpAny_newObj_type (wpAny_pure (wpAny_pure ⟨_, rfl, wpAny_pure h⟩)) htake))
    | exact wpAny_bind (wpAny_bind (m := Builtin.Tuple.tupleExact _) (wpAny_newObj_type (wpAny_pure ⟨_, rfl, wpAny_pure h⟩) htake))
end
def revD : D → Option D
  | .tup xs => some (.tup xs.reverse)
  | .lst xs => some (.lst xs.reverse)
  | _ => none
section
variable {X : Cx} {π : Nat → Addr} {W : WX}
def rRevA (K : PySem.W.Frag) : V → Hp → VK → Prop := fun x H Q => ∃ a xs, x = .ref a ∧ ((SqL K H a xs ∧ ∀ p, H p = none → Q (.ref p) (upd H p (.lst xs.reverse))) ∨ (SqT K H a xs ∧ ∀ p, H p = none → Q (.ref p) (upd H p (.tup xs.reverse))))
theorem pe_revA {e : Expr} {te : TE} {k : Nat} {p1 p2 p3 pos : Pos} (he : PE X e te) : PE X (.Subscript e (.Slice none none (some (.UnaryOp .USub (.Constant (.int 1) k p1) p2)) p3) pos) (tUn (rRevA X.K) te) := by
  refine ⟨fun pins s σ H Q I h => ?_⟩
  refine Subscript_ (thn (he.run pins s σ H _ I h) fun v s1 ⟨x, H1, I1, r1, q1⟩ => ?_)
  obtain ⟨a, xs, rfl, q⟩ := q1
  cases r1
  have hst : PO X (some (.UnaryOp .USub (.Constant (.int 1) k p1) p2)) (tPart (tUn (rU fun i => .int (-i)) (tC (.int 1)))) := po_some (pe_un un_neg pe_int)
  refine wpAny_Slice (thn (po_none.run pins s1 σ H1 (fun o H2 => o = none ∧ H2 = H1) I1 ⟨rfl, rfl⟩) fun vl s2 ⟨l, H2, I2, pl, el, e2⟩ => ?_)
  subst el e2
  refine thn (po_none.run pins s2 σ H2 (fun o H3 => o = none ∧ H3 = H2) I2 ⟨rfl, rfl⟩) fun vu s3 ⟨u, H3, I3, pu, eu, e3⟩ => ?_
  subst eu e3
  refine thn (hst.run pins s3 σ H3 (fun o H4 => o = some (-1) ∧ H4 = H3) I3 ⟨1, rfl, -1, rfl, rfl, rfl⟩) fun vs s4 ⟨o, H4, I4, ps, eo, e4⟩ => ?_
  subst eo e4
  have I5 : Inv X pins σ H4 { s4 with heap := s4.heap.push { cls := .type "slice", data := .fields #[vl, vu, vs] } } := I4.kept (t' := s4.toks) fun b ob q => Heap.get?_push_of_some _ q
  show wpAny (model X.prog X.w) X.A (subscriptTail e (.Slice none none (some (.UnaryOp .USub (.Constant (.int 1) k p1) p2)) p3) (.ref a) (.ref s4.heap.objs.size)) (EP X pins σ Q) X.xe { s4 with heap := s4.heap.push { cls := .type "slice", data := .fields #[vl, vu, vs] } }
  rcases q with ⟨hx, q⟩ | ⟨hx, q⟩
  · obtain ⟨its, r, ht, hz⟩ := I5.list hx
    have hlen := r.length
    refine tail_any (ops := [.ref a, .ref s4.heap.objs.size]) ht.isList.typeIs (PySem.slot_list_getitem.lookup) ?_ (by with_unfolding_all rfl)
    refine wpAny_getItem_list_slice ht.isList (Heap.IsSliceOf.new _ vl vu vs) pl pu ps (by decide) ?_ (by rw [List.size_toArray]; omega)
    rw [PySem.W.krv_pick]
    refine ⟨.ref _, _, I5.laid (t' := s4.toks) (o := .lst xs.reverse) (fun b ob q => Heap.get?_push_of_some _ q) (Nat.le_refl _) ?_, rfl, q _ (I5.hok.fresh (Nat.le_refl _))⟩
    exact ⟨by rw [List.length_reverse]; exact hz, _, 0, r.reverse, Heap.get?_push_size _ rfl⟩
  · obtain ⟨its, r, ht, hz⟩ := I5.tuple hx
    have hlen := r.length
    refine tail_any (ops := [.ref a, .ref s4.heap.objs.size]) ht.typeIs (PyProof.Rows.slot_tuple_getitem.lookup) ?_ (by with_unfolding_all rfl)
    refine item_tuple_rev ht (Heap.IsSliceOf.new _ vl vu vs) pl pu ps ?_ (by rw [List.size_toArray]; omega)
    refine ⟨.ref _, _, I5.laid (t' := s4.toks) (o := .tup xs.reverse) (fun b ob q => Heap.get?_push_of_some _ q) (Nat.le_refl _) ?_, rfl, q _ (I5.hok.fresh (Nat.le_refl _))⟩
    exact ⟨by rw [List.length_reverse]; exact hz, _, r.reverse, IsTup.new _ _⟩
theorem q_rev {K : PySem.W.Frag} : Op1 K revD (rRevA K) := by
  intro F H x dx d Q s rx e k
  cases rx <;> first | (cases e; done) | skip
  · rename_i a xs ds h1 r1
    cases e
    refine ⟨a, xs, rfl, .inr ⟨sm_tup s h1, fun p hp => ?_⟩⟩
    have g := Grw.newF (o := .tup xs.reverse) s hp
    exact k _ _ _ g (.tup (SqT.of upd_same) (Reps.mono g.f r1).reverse)
  · rename_i a xs ds h1 r1
    cases e
    refine ⟨a, xs, rfl, .inl ⟨SqL.of (s _ _ h1), fun p hp => ?_⟩⟩
    have g := Grw.newF (o := .lst xs.reverse) s hp
    exact k _ _ _ g (.lst upd_same (Reps.mono g.f r1).reverse)
theorem fe_rev {e : Expr} {f : EF} {k : Nat} {p1 p2 p3 pos : Pos} (he : PE X e (tE X.K π W f)) : PE X (.Subscript e (.Slice none none (some (.UnaryOp .USub (.Constant (.int 1) k p1) p2)) p3) pos) (tE X.K π W (op1 revD f)) :=
  PE.imp (pe_revA he) fun _ _ _ => rd_op1 q_rev
end

/-! ### subscripts -/
def ixD : D → D → Option D
  | .tup xs, .int i => atI xs i
  | .lst xs, .int i => atI xs i
  | .scr ns, .int i => (atI ns i).map D.int
  | .str z, .int i => if z.length ≤ 100000 then (atI z.cps.toList i).map fun c => D.str ⟨#[c]⟩ else none
  | _, _ => none
theorem Reps.atI {K : PySem.W.Frag} {F : Hp} {vs : List V} {ds : List D} {i : Int} {d : D} (r : Reps K F vs ds) (h : L2.atI ds i = some d) : ∃ v, L2.atI vs i = some v ∧ Rep K F v d := by
  unfold L2.atI at h ⊢
  rw [Reps.length r]
  cases e : ixN ds.length i with
  | none => rw [e] at h; cases h
  | some j =>
    rw [e] at h
    exact r.get h
theorem atI_map {α β : Type} (f : α → β) (xs : List α) (i : Int) : L2.atI (xs.map f) i = (L2.atI xs i).map f := by
  unfold L2.atI
  rw [List.length_map]
  cases ixN xs.length i with
  | none => rfl
  | some j =>
    show (xs.map f)[j]? = (xs[j]?).map f
    rw [List.getElem?_map]
theorem q_ix {K : PySem.W.Frag} : Op2 K ixD (rIx K) := by
  intro F H x y dx dy d Q s rx ry e k
  cases rx <;> cases ry <;> first | (cases e; done) | skip
  · rename_i z i
    simp only [ixD] at e
    split at e
    · rename_i hz
      cases h : L2.atI z.cps.toList i with
      | none => rw [h] at e; cases e
      | some c =>
        rw [h] at e
        cases e
        exact .inr (.inr ⟨z, i, c, rfl, rfl, le_line hz, h, k _ F H (Grw.refl s) (.str _)⟩)
    · cases e
  · rename_i a xs ds h1 r1 i
    obtain ⟨v, h2, r2⟩ := r1.atI e
    exact .inr (.inl ⟨a, xs, i, v, rfl, rfl, sm_tup s h1, h2, k _ F H (Grw.refl s) r2⟩)
  · rename_i a xs ds h1 r1 i
    obtain ⟨v, h2, r2⟩ := r1.atI e
    exact .inl ⟨a, xs, i, v, rfl, rfl, SqL.of (s _ _ h1), h2, k _ F H (Grw.refl s) r2⟩
  · rename_i a ns h1 i
    simp only [ixD] at e
    cases h : L2.atI ns i with
    | none => rw [h] at e; cases e
    | some c =>
      rw [h] at e
      cases e
      exact .inl ⟨a, ns.map V.int, i, .int c, rfl, rfl, Same.seq s h1, by rw [atI_map, h]; rfl, k _ F H (Grw.refl s) (.int c)⟩
section
variable {X : Cx} {π : Nat → Addr} {W : WX} {a b : Expr} {pos p2 : Pos}
theorem fe_ix {f g : EF} (ha : PE X a (tE X.K π W f)) (hb : PE X b (tE X.K π W g)) (hs : PlainIx b) : PE X (.Subscript a b pos) (tE X.K π W (op2 ixD f g)) := PE.imp (pe_ix ix_seq ha hb hs) fun _ _ _ => rd_op2 q_ix

/-! ### slices -/
def relO : Rel (Option Int) (Option Int) := fun _ _ _ _ _ b c => b = c
abbrev tO (K : PySem.W.Frag) (π : Nat → Addr) (W : WX) (f : Rho → R (Option Int)) : TO := tG K π W relO f
def noO : Rho → R (Option Int) := fun ρ => .ok none ρ
def smO (f : EF) : Rho → R (Option Int) := fun ρ => (f ρ).bind fun x ρ => match x with
  | .int i => .ok (some i) ρ
  | _ => .stuck
theorem PO.imp {o : Option Expr} {t t' : TO} (h : PO X o t) (k : ∀ σ H Q, t' σ H Q → t σ H Q) : PO X o t' := ⟨fun pins s σ H Q I q => h.run pins s σ H Q I (k σ H Q q)⟩
theorem fo_none : PO X none (tO X.K π W noO) := PO.imp po_none fun σ H Q ⟨c, F, ρ, S, P⟩ => P none F H (Same.refl _) S rfl
theorem fo_some {f : EF} (ha : PE X a (tE X.K π W f)) : PO X (some a) (tO X.K π W (smO f)) := PO.imp (po_some ha) fun σ H Q ⟨c, F, ρ, S, P⟩ => by
  refine po_bind S P fun x F1 H1 ρ1 dx s1 S1 r1 P1 => ?_
  cases r1 <;> first | (exact P1.elim) | skip
  rename_i i
  exact ⟨i, rfl, P1 (some i) F1 H1 (Same.refl _) S1 rfl⟩
def cut {α : Type} (xs : List α) (lo hi : Option Int) : List α := (xs.drop (HT.sIx xs.length 0 lo)).take (HT.sIx xs.length xs.length hi - HT.sIx xs.length 0 lo)
def cutD (d : D) (lo hi : Option Int) : Option D := match d with
  | .tup xs => some (.tup (cut xs lo hi))
  | .lst xs => some (.lst (cut xs lo hi))
  | .scr ns => some (.lst ((cut ns lo hi).map D.int))
  | .str z => if z.length ≤ 100000 then some (.str (cutS z lo hi)) else none
  | _ => none
def slF (f : EF) (g h : Rho → R (Option Int)) : EF := fun ρ => (f ρ).bind fun x ρ => (g ρ).bind fun l ρ => (h ρ).bind fun u ρ => R.of (cutD x l u) ρ
theorem Reps.cut {K : PySem.W.Frag} {F : Hp} {vs : List V} {ds : List D} (r : Reps K F vs ds) (lo hi : Option Int) : Reps K F (cutV vs lo hi) (FL.cut ds lo hi) := by
  unfold cutV FL.cut
  rw [Reps.length r]
  exact (r.drop _).take _
theorem cut_map {α β : Type} (f : α → β) (xs : List α) (lo hi : Option Int) : cut (xs.map f) lo hi = (cut xs lo hi).map f := by
  unfold cut
  rw [List.length_map, List.map_take, List.map_drop]
theorem cut_whole {α : Type} {xs : List α} {lo hi : Option Int} (h : HT.sIx xs.length 0 lo = 0 ∧ HT.sIx xs.length xs.length hi = xs.length) : cut xs lo hi = xs := by
  unfold cut
  rw [h.1, h.2, List.drop_zero, Nat.sub_zero, List.take_length]
def rSlAll (K : PySem.W.Frag) : V → Option Int → Option Int → Hp → VK → Prop := fun x lo hi H Q => rSlA K x lo hi H Q ∨ rSlL K x lo hi H Q ∨ rSlS x lo hi H Q
theorem q_cut {K : PySem.W.Frag} {F H : Hp} {x : V} {dx d : D} {lo hi : Option Int} {Q : VK} (s : Same F H) (rx : Rep K F x dx) (e : cutD dx lo hi = some d) (k : ∀ v F' H', Grw F H F' H' → Rep K F' v d → Q v H') : rSlAll K x lo hi H Q := by
  cases rx <;> first | (cases e; done) | skip
  · rename_i z
    simp only [cutD] at e
    split at e
    · rename_i hz
      cases e
      exact .inr (.inr ⟨z, rfl, le_line hz, k _ F H (Grw.refl s) (.str _)⟩)
    · cases e
  · rename_i a xs ds h1 r1
    cases e
    refine .inl ⟨a, xs, rfl, sm_tup s h1, fun hw => ?_, fun hw p hp => ?_⟩
    · rw [Reps.length r1] at hw
      rw [cut_whole hw] at k
      exact k _ F H (Grw.refl s) (.tup h1 r1)
    · have g := Grw.newF (o := .tup (cutV xs lo hi)) s hp
      exact k _ _ _ g (.tup (SqT.of upd_same) ((Reps.mono g.f r1).cut lo hi))
  · rename_i a xs ds h1 r1
    cases e
    refine .inr (.inl ⟨a, xs, rfl, SqL.of (s _ _ h1), fun p hp => ?_⟩)
    have g := Grw.newF (o := .lst (cutV xs lo hi)) s hp
    exact k _ _ _ g (.lst upd_same ((Reps.mono g.f r1).cut lo hi))
  · rename_i a ns h1
    cases e
    refine .inr (.inl ⟨a, ns.map V.int, rfl, Same.seq s h1, fun p hp => ?_⟩)
    have g := Grw.newF (o := .lst (cutV (ns.map V.int) lo hi)) s hp
    refine k _ _ _ g (.lst upd_same ?_)
    rw [show cutV (ns.map V.int) lo hi = (cut ns lo hi).map V.int from cut_map V.int ns lo hi]
    exact Reps.ints _
theorem fe_sl {f : EF} {g h : Rho → R (Option Int)} {lo hi : Option Expr} (ha : PE X a (tE X.K π W f)) (hl : PO X lo (tO X.K π W g)) (hu : PO X hi (tO X.K π W h)) : PE X (.Subscript a (.Slice lo hi none p2) pos) (tE X.K π W (slF f g h)) :=
  PE.imp (pe_slice (r := rSlAll X.K) (sl_tupA.or (sl_list.or sl_str)) ha hl hu) fun σ H Q ⟨c, F, ρ, S, P⟩ => by
    refine po_bind S P fun x F1 H1 ρ1 dx s1 S1 r1 P1 => ?_
    refine po_bind S1 P1 fun l F2 H2 ρ2 dl s2 S2 r2 P2 => ?_
    refine po_bind S2 P2 fun u F3 H3 ρ3 du s3 S3 r3 P3 => ?_
    obtain ⟨d, e, P4⟩ := po_of P3
    cases r2
    cases r3
    exact q_cut S3.f (Rep.mono (s2.trans s3) r1) e fun v F4 H4 gr rv => P4 v F4 H4 gr.f (S3.grow gr) rv
end

/-! ### calls of built-ins -/
def OpC (K : PySem.W.Frag) (o : List D → Option D) (r : List V → Hp → VK → Prop) : Prop := ∀ {F H : Hp} {vs : List V} {ds : List D} {d : D} {Q : VK}, Same F H → Reps K F vs ds → o ds = some d → (∀ v F' H', Grw F H F' H' → Rep K F' v d → Q v H') → r vs H Q
def opC (o : List D → Option D) (g : Rho → R (List D)) : EF := fun ρ => (g ρ).bind fun xs ρ => R.of (o xs) ρ
section
variable {X : Cx} {π : Nat → Addr} {W : WX} {e : Expr} {es : List Expr} {pos p : Pos} {x : Str} {id T : String} {r : List V → Hp → VK → Prop} {o : List D → Option D} {g : Rho → R (List D)}
theorem rd_opC {K : PySem.W.Frag} {σ : L2.St} {H : Hp} {Q : VK} (q : OpC K o r) (t : tE K π W (opC o g) σ H Q) : tCB r (tA K π W g) σ H Q := by
  obtain ⟨c, F, ρ, S, P⟩ := t
  refine po_bind S P fun vs F1 H1 ρ1 ds s1 S1 r1 P1 => ?_
  obtain ⟨d, e, P2⟩ := po_of P1
  exact q S1.f r1 e fun v F2 H2 gr rv => P2 v F2 H2 gr.f (S1.grow gr) rv
theorem fe_callB (q : OpC X.K o r) (hc : CallR X (.builtin id) r) (hg : Gl X x) (hm : X.mg x = none) (hv : bootBuiltins x = some (.builtin id)) (ha : PA X (e :: es) (tA X.K π W g)) (hn : x ≠ "__name__" := by decide) (hdb : (x == ("__debug__" : Str)) = false := by decide)
    (he : starEach (e :: es) X.env = (false, eval e X.env) :: starEach es X.env := by rfl) (hpl : (backTo pos (starEach es X.env)).any (·.1) = false := by rfl) : PE X (.Call (.Name x p) (e :: es) [] pos) (tE X.K π W (opC o g)) :=
  PE.imp (pe_callB hc hg hm hv ha hn hdb he hpl) fun _ _ _ => rd_opC q
theorem fe_callTy (q : OpC X.K o r) (hc : CallR X (.type T) r) (hg : Gl X x) (hm : X.mg x = none) (hv : bootBuiltins x = some (.type T)) (ha : PA X (e :: es) (tA X.K π W g)) (hn : x ≠ "__name__" := by decide) (hdb : (x == ("__debug__" : Str)) = false := by decide)
    (he : starEach (e :: es) X.env = (false, eval e X.env) :: starEach es X.env := by rfl) (hpl : (backTo pos (starEach es X.env)).any (·.1) = false := by rfl) : PE X (.Call (.Name x p) (e :: es) [] pos) (tE X.K π W (opC o g)) :=
  PE.imp (pe_callTy hc hg hm hv ha hn hdb he hpl) fun _ _ _ => rd_opC q
end
/-- len -/
def lenC : List D → Option D
  | [.str z] => if z.length ≤ 100000 then some (.int z.length) else none
  | [.tup xs] => some (.int xs.length)
  | [.lst xs] => some (.int xs.length)
  | [.scr ns] => some (.int ns.length)
  | _ => none
def rLenA (K : PySem.W.Frag) : List V → Hp → VK → Prop := fun xs H Q => ∃ x n, xs = [x] ∧ LenV K x H n ∧ Q (.int n) H
theorem Reps.one {K : PySem.W.Frag} {F : Hp} {vs : List V} {d : D} (r : Reps K F vs [d]) : ∃ v, vs = [v] ∧ Rep K F v d := by
  cases r with
  | cons h t =>
    cases t
    exact ⟨_, rfl, h⟩
theorem Reps.two {K : PySem.W.Frag} {F : Hp} {vs : List V} {d e : D} (r : Reps K F vs [d, e]) : ∃ v w, vs = [v, w] ∧ Rep K F v d ∧ Rep K F w e := by
  cases r with
  | cons h t =>
    obtain ⟨w, rfl, h2⟩ := Reps.one t
    exact ⟨_, _, rfl, h, h2⟩
section
variable {X : Cx} {K : PySem.W.Frag}
theorem q_len : OpC K lenC (rLenA K) := by
  intro F H vs ds d Q s r e k
  unfold lenC at e
  split at e
  · rename_i z
    split at e
    · rename_i hz
      cases e
      obtain ⟨v, rfl, h⟩ := Reps.one r
      cases h
      exact ⟨.str z, z.length, rfl, ⟨le_line hz, rfl⟩, k _ F H (Grw.refl s) (.int _)⟩
    · cases e
  · cases e
    obtain ⟨v, rfl, h⟩ := Reps.one r
    cases h with
    | tup h1 r1 => exact ⟨_, _, rfl, .inr ⟨_, sm_tup s h1, rfl⟩, by rw [Reps.length r1]; exact k _ F H (Grw.refl s) (.int _)⟩
  · cases e
    obtain ⟨v, rfl, h⟩ := Reps.one r
    cases h with
    | lst h1 r1 => exact ⟨_, _, rfl, .inl ⟨_, SqL.of (s _ _ h1), rfl⟩, by rw [Reps.length r1]; exact k _ F H (Grw.refl s) (.int _)⟩
  · cases e
    obtain ⟨v, rfl, h⟩ := Reps.one r
    cases h with
    | scr h1 => exact ⟨_, _, rfl, .inl ⟨_, Same.seq s h1, rfl⟩, by rw [List.length_map]; exact k _ F H (Grw.refl s) (.int _)⟩
  · cases e
theorem o_len : CallR X (.builtin "len") (rLenA X.K) := call_len
def absC : List D → Option D
  | [.int i] => some (.int (if i < 0 then -i else i))
  | _ => none
theorem q_abs : OpC K absC (fun xs H Q => ∃ i, xs = [V.int i] ∧ Q (.int (if i < 0 then -i else i)) H) := by
  intro F H vs ds d Q s r e k
  unfold absC at e
  split at e
  · cases e
    obtain ⟨v, rfl, h⟩ := Reps.one r
    cases h
    exact ⟨_, rfl, k _ F H (Grw.refl s) (.int _)⟩
  · cases e
def intC : List D → Option D
  | [.int i] => some (.int i)
  | [.bl b] => some (.int (if b then 1 else 0))
  | _ => none
theorem q_int : OpC K intC (fun xs H Q => (∃ i, xs = [V.int i] ∧ Q (.int i) H) ∨ ∃ k, xs = [V.bl k] ∧ Q (.int (if k then 1 else 0)) H) := by
  intro F H vs ds d Q s r e k
  unfold intC at e
  split at e
  · cases e
    obtain ⟨v, rfl, h⟩ := Reps.one r
    cases h
    exact .inl ⟨_, rfl, k _ F H (Grw.refl s) (.int _)⟩
  · cases e
    obtain ⟨v, rfl, h⟩ := Reps.one r
    cases h
    exact .inr ⟨_, rfl, k _ F H (Grw.refl s) (.int _)⟩
  · cases e
def maxC : List D → Option D
  | [.int i, .int j] => some (.int (if j > i then j else i))
  | _ => none
theorem q_max : OpC K maxC (fun xs H Q => ∃ i j, xs = [V.int i, V.int j] ∧ Q (.int (if j > i then j else i)) H) := by
  intro F H vs ds d Q s r e k
  unfold maxC at e
  split at e
  · cases e
    obtain ⟨v, w, rfl, h, h2⟩ := Reps.two r
    cases h
    cases h2
    exact ⟨_, _, rfl, k _ F H (Grw.refl s) (.int _)⟩
  · cases e
def minC : List D → Option D
  | [.int i, .int j] => some (.int (if j < i then j else i))
  | _ => none
theorem q_min : OpC K minC (fun xs H Q => ∃ i j, xs = [V.int i, V.int j] ∧ Q (.int (if j < i then j else i)) H) := by
  intro F H vs ds d Q s r e k
  unfold minC at e
  split at e
  · cases e
    obtain ⟨v, w, rfl, h, h2⟩ := Reps.two r
    cases h
    cases h2
    exact ⟨_, _, rfl, k _ F H (Grw.refl s) (.int _)⟩
  · cases e
/-- tuple(x) -/
def tupC : List D → Option D
  | [.lst xs] => some (.tup xs)
  | [.tup xs] => some (.tup xs)
  | _ => none
theorem q_tup : OpC K tupC (fun xs H Q => ∃ p ys, xs = [V.ref p] ∧ ((SqL K H p ys ∧ ∀ l, H l = none → Q (.ref l) (upd H l (.tup ys))) ∨ (SqT K H p ys ∧ Q (.ref p) H))) := by
  intro F H vs ds d Q s r e k
  unfold tupC at e
  split at e
  · cases e
    obtain ⟨v, rfl, h⟩ := Reps.one r
    cases h with
    | lst h1 r1 =>
      refine ⟨_, _, rfl, .inl ⟨SqL.of (s _ _ h1), fun p hp => ?_⟩⟩
      exact k _ _ _ (Grw.newF s hp) (.tup (SqT.of upd_same) (Reps.mono (sm_new (Same.free s hp)) r1))
  · cases e
    obtain ⟨v, rfl, h⟩ := Reps.one r
    cases h with
    | tup h1 r1 => exact ⟨_, _, rfl, .inr ⟨sm_tup s h1, k _ F H (Grw.refl s) (.tup h1 r1)⟩⟩
  · cases e
/-- list(x), as data -/
def lstC : List D → Option D
  | [.lst xs] => some (.lst xs)
  | [.tup xs] => some (.lst xs)
  | [.scr ns] => some (.lst (ns.map D.int))
  | _ => none
theorem q_lst : OpC K lstC (fun xs H Q => ∃ p ys, xs = [V.ref p] ∧ (SqL K H p ys ∨ SqT K H p ys) ∧ ∀ l, H l = none → Q (.ref l) (upd H l (.lst ys))) := by
  intro F H vs ds d Q s r e k
  unfold lstC at e
  split at e
  · cases e
    obtain ⟨v, rfl, h⟩ := Reps.one r
    cases h with
    | lst h1 r1 =>
      refine ⟨_, _, rfl, .inl (SqL.of (s _ _ h1)), fun p hp => ?_⟩
      exact k _ _ _ (Grw.newF s hp) (.lst upd_same (Reps.mono (sm_new (Same.free s hp)) r1))
  · cases e
    obtain ⟨v, rfl, h⟩ := Reps.one r
    cases h with
    | tup h1 r1 =>
      refine ⟨_, _, rfl, .inr (sm_tup s h1), fun p hp => ?_⟩
      exact k _ _ _ (Grw.newF s hp) (.lst upd_same (Reps.mono (sm_new (Same.free s hp)) r1))
  · cases e
    obtain ⟨v, rfl, h⟩ := Reps.one r
    cases h with
    | scr h1 =>
      refine ⟨_, _, rfl, .inl (Same.seq s h1), fun p hp => ?_⟩
      exact k _ _ _ (Grw.newF s hp) (.lst upd_same (Reps.ints _))
  · cases e
/-- all, any of a list of truths -/
def bools : List D → Option (List Bool)
  | [] => some []
  | .bl b :: r => (bools r).map (b :: ·)
  | _ :: _ => none
theorem bools_rep {F : Hp} : ∀ {vs : List V} {ds : List D} {bs : List Bool}, Reps K F vs ds → bools ds = some bs → vs = bs.map V.bl
  | _, [], _, .nil, e => by cases e; rfl
  | _, .bl b :: ds, bs, .cons h r, e => by
    cases h
    simp only [bools] at e
    cases h : bools ds with
    | none => rw [h] at e; cases e
    | some l =>
      rw [h] at e
      cases e
      rw [bools_rep r h]
      rfl
  | _, .non :: _, _, _, e => by cases e
  | _, .int _ :: _, _, _, e => by cases e
  | _, .str _ :: _, _, _, e => by cases e
  | _, .tup _ :: _, _, _, e => by cases e
  | _, .lst _ :: _, _, _, e => by cases e
  | _, .scr _ :: _, _, _, e => by cases e
  | _, .fn _ :: _, _, _, e => by cases e
  | _, .dct _ :: _, _, _, e => by cases e
  | _, .exc _ _ :: _, _, _, e => by cases e
def allC : List D → Option D
  | [.lst xs] => (bools xs).map fun bs => .bl (bs.all id)
  | _ => none
def anyC : List D → Option D
  | [.lst xs] => (bools xs).map fun bs => .bl (bs.any id)
  | _ => none
theorem q_all : OpC K allC (rAll K) := by
  intro F H vs ds d Q s r e k
  unfold allC at e
  split at e
  · rename_i xs
    cases hb : bools xs with
    | none => rw [hb] at e; cases e
    | some bs =>
      rw [hb] at e
      cases e
      obtain ⟨v, rfl, h⟩ := Reps.one r
      cases h with
      | lst h1 r1 =>
        rw [bools_rep r1 hb] at h1
        exact ⟨_, bs, rfl, SqL.of (s _ _ h1), k _ F H (Grw.refl s) (.bl _)⟩
  · cases e
theorem q_any : OpC K anyC (rAny K) := by
  intro F H vs ds d Q s r e k
  unfold anyC at e
  split at e
  · rename_i xs
    cases hb : bools xs with
    | none => rw [hb] at e; cases e
    | some bs =>
      rw [hb] at e
      cases e
      obtain ⟨v, rfl, h⟩ := Reps.one r
      cases h with
      | lst h1 r1 =>
        rw [bools_rep r1 hb] at h1
        exact ⟨_, bs, rfl, SqL.of (s _ _ h1), k _ F H (Grw.refl s) (.bl _)⟩
  · cases e
/-- divmod -/
def dmC : List D → Option D
  | [.int a, .int b] => if 0 < b ∧ b < 1073741824 then some (.tup [.int (a / b), .int (a % b)]) else none
  | _ => none
theorem q_dm : OpC K dmC (fun xs H Q => ∃ i j, xs = [V.int i, V.int j] ∧ CDiv i j ∧ ∀ p, H p = none → Q (.ref p) (upd H p (.tup [.int (i / j), .int (i % j)]))) := by
  intro F H vs ds d Q s r e k
  unfold dmC at e
  split at e
  · split at e
    · rename_i hz
      cases e
      obtain ⟨v, w, rfl, h, h2⟩ := Reps.two r
      cases h
      cases h2
      refine ⟨_, _, rfl, hz, fun p hp => ?_⟩
      exact k _ _ _ (Grw.newF s hp) (.tup (SqT.of upd_same) (.cons (.int _) (.cons (.int _) .nil)))
    · cases e
  · cases e
end
end FL
/-! FL5: statements, loops. -/
namespace FL
open PySem PySem.Spec PyProof.Rows L2

inductive Res where
  | v (d : D)
  | m (m : M)
inductive Fl where
  | nx
  | rt (r : Res)
  | bk
  | ct
abbrev SF := Rho → R Fl
section
variable (K : PySem.W.Frag) (π : Nat → Addr) (W : WX)
def relR (c : Cfg) (F H : Hp) (σ : L2.St) (ρ : Rho) (v : V) : Res → Prop
  | .v d => Rep K F v d
  | .m m => relM K c F H σ ρ v m
def PoS (c : Cfg) (F : Hp) (σ : L2.St) (D : Ends) : R Fl → Prop
  | .ok .nx ρ' => ∀ σ' F' H', Same F F' → Sta K π c F' H' σ' ρ' → D.nx σ' H'
  | .ok (.rt r) ρ' => ∀ v σ' F' H', Same F F' → Sta K π c F' H' σ' ρ' → relR K c F' H' σ' ρ' v r → D.rt v H'
  | .ok .bk ρ' => ∀ σ' F' H', Same F F' → Sta K π c F' H' σ' ρ' → D.bk σ' H'
  | .ok .ct ρ' => ∀ σ' F' H', Same F F' → Sta K π c F' H' σ' ρ' → D.ct σ' H'
  | .exc C fs ρ' => ∀ dd fsV σ' F' H', Same F F' → Sta K π c F' H' σ' ρ' → H' dd = some (.xd fsV) → fsV.map (·.1) = fs.map (·.1) → Reps K F' (fsV.map (·.2)) (fs.map (·.2)) → W (.ref C) (some dd) σ' H'
  | .stuck => False
def tS (f : SF) : TS := fun D σ H => ∃ c F ρ, c.ow = [] ∧ Sta K π c F H σ ρ ∧ PoS K π W c F σ D (f ρ)
/-- a target -/
abbrev GF := D → Rho → Option Rho
def Off (ns : List Nat) (σ σ' : L2.St) : Prop := σ'.length = σ.length ∧ ∀ j, j ∉ ns → σ'[j]? = σ[j]?
def PoG (ns : List Nat) (c : Cfg) (F : Hp) (σ : L2.St) (Q : L2.St → Hp → Prop) : Option Rho → Prop
  | some ρ' => ∀ σ' F' H', Same F F' → Off ns σ σ' → Sta K π c F' H' σ' ρ' → Q σ' H'
  | none => False
def tGt (ns : List Nat) (g : GF) : TG := fun v σ H Q => ∃ c F ρ d, Sta K π c F H σ ρ ∧ Rep K F v d ∧ PoG K π ns c F σ Q (g d ρ)
abbrev GFs := List D → Rho → Option Rho
def tGts (ns : List Nat) (g : GFs) : TGs := fun vs σ H Q => ∃ c F ρ ds, Sta K π c F H σ ρ ∧ Reps K F vs ds ∧ PoG K π ns c F σ Q (g ds ρ)
end
section
variable {K : PySem.W.Frag} {π : Nat → Addr} {W : WX} {c : Cfg} {F F' H H' : Hp} {σ σ' : L2.St} {ρ ρ' : Rho} {D : Ends}
theorem PoS.mono (s : Same F F') : ∀ {r : R Fl}, PoS K π W c F σ D r → PoS K π W c F' σ' D r
  | .ok .nx ρ', h => fun σ2 F2 H2 s2 => h σ2 F2 H2 (s.trans s2)
  | .ok (.rt r) ρ', h => fun v σ2 F2 H2 s2 => h v σ2 F2 H2 (s.trans s2)
  | .ok .bk ρ', h => fun σ2 F2 H2 s2 => h σ2 F2 H2 (s.trans s2)
  | .ok .ct ρ', h => fun σ2 F2 H2 s2 => h σ2 F2 H2 (s.trans s2)
  | .exc C fs ρ', h => fun dd fsV σ2 F2 H2 s2 => h dd fsV σ2 F2 H2 (s.trans s2)
  | .stuck, h => h
/-- an expression, then what follows -/
theorem pos_bind {α β : Type} {rel : Rel β α} {f : Rho → R α} {k : α → Rho → R Fl} {Q1 : β → Hp → Prop} (S : Sta K π c F H σ ρ) (h : PoS K π W c F σ D ((f ρ).bind k))
    (cont : ∀ v F' H' ρ' a, Same F F' → Sta K π c F' H' σ ρ' → rel c F' H' σ ρ' v a → PoS K π W c F' σ D (k a ρ') → Q1 v H') : tG K π W rel f σ H Q1 := by
  refine ⟨c, F, ρ, S, ?_⟩
  cases e : f ρ with
  | ok a ρ' =>
    rw [e] at h
    have h : PoS K π W c F σ D (k a ρ') := h
    exact fun v F2 H2 s2 S2 r => cont v F2 H2 ρ' a s2 S2 r (h.mono s2)
  | exc C fs ρ' =>
    rw [e] at h
    exact fun dd fsV F2 H2 s2 S2 => h dd fsV σ F2 H2 s2 S2
  | stuck =>
    rw [e] at h
    exact h
theorem Off.refl {ns : List Nat} (σ : L2.St) : Off ns σ σ := ⟨rfl, fun _ _ => rfl⟩
theorem Off.trans {ns ms : List Nat} {σ1 σ2 σ3 : L2.St} (a : Off ns σ1 σ2) (b : Off ms σ2 σ3) : Off (ns ++ ms) σ1 σ3 := ⟨b.1.trans a.1, fun j hj => (b.2 j fun z => hj (List.mem_append_right _ z)).trans (a.2 j fun z => hj (List.mem_append_left _ z))⟩
theorem Off.set {i : Nat} {σ : L2.St} {x : Option V} : Off [i] σ (σ.set i x) := ⟨by simp, fun j hj => List.getElem?_set_ne (fun z => hj (by simp [z]))⟩
theorem PoG.mono {ns : List Nat} {Q : L2.St → Hp → Prop} (s : Same F F') : ∀ {r : Option Rho}, PoG K π ns c F σ Q r → PoG K π ns c F' σ Q r
  | some ρ', h => fun σ2 F2 H2 s2 => h σ2 F2 H2 (s.trans s2)
  | none, h => h.elim
end

section
variable {X : Cx} {π : Nat → Addr} {W : WX} {e a b : Expr} {pos : Pos} {st : Stmt} {rest : List Stmt}
theorem PS.imp {t t' : TS} (h : PS X st t) (k : ∀ D σ H, t' D σ H → t D σ H) : PS X st t' := ⟨fun pins s σ H D I q => h.run pins s σ H D I (k D σ H q)⟩
theorem PSs.imp {t t' : TS} (h : PSs X rest t) (k : ∀ D σ H, t' D σ H → t D σ H) : PSs X rest t' := ⟨fun pins s σ H D I q => h.run pins s σ H D I (k D σ H q)⟩
theorem PG.imp {t t' : TG} (h : PG X e t) (k : ∀ v σ H Q, t' v σ H Q → t v σ H Q) : PG X e t' := ⟨fun pins s σ H v u Q I r q => h.run pins s σ H v u Q I r (k v σ H Q q)⟩
theorem PGs.imp {es : List Expr} {t t' : TGs} (h : PGs X es t) (k : ∀ v σ H Q, t' v σ H Q → t v σ H Q) : PGs X es t' := ⟨fun pins s σ H v u Q I r q => h.run pins s σ H v u Q I r (k v σ H Q q)⟩

/-! ### blocks -/
def nxS : SF := fun ρ => .ok .nx ρ
def seqS (f g : SF) : SF := fun ρ => (f ρ).bind fun fl ρ => match fl with
  | .nx => g ρ
  | o => .ok o ρ
theorem fss_nil : PSs X [] (tS X.K π W nxS) := PSs.imp pss_nil fun D σ H ⟨c, F, ρ, h0, S, P⟩ => P σ F H (Same.refl _) S
theorem fss_cons {f g : SF} (h1 : PS X st (tS X.K π W f)) (h2 : PSs X rest (tS X.K π W g)) : PSs X (st :: rest) (tS X.K π W (seqS f g)) :=
  PSs.imp (pss_cons h1 h2) fun D σ H ⟨c, F, ρ, h0, S, P⟩ => by
    refine ⟨c, F, ρ, h0, S, ?_⟩
    unfold seqS at P
    cases ef : f ρ with
    | stuck => rw [ef] at P; exact P
    | exc C fs ρ' => rw [ef] at P; exact P
    | ok fl ρ' =>
      rw [ef] at P
      cases fl with
      | nx => exact fun σ2 F2 H2 s2 S2 => ⟨c, F2, ρ', h0, S2, PoS.mono s2 P⟩
      | rt r => exact P
      | bk => exact P
      | ct => exact P
theorem fss_one {f : SF} (h1 : PS X st (tS X.K π W f)) : PSs X [st] (tS X.K π W f) := pss_one h1
/-- a slot's own list becomes data -/
def frzAt (i : Nat) (ρ : Rho) : Option Rho := match ρ[i]? with
  | some (.own (.lst ds)) => some (ρ.set i (.val (.lst ds)))
  | _ => none
def frzS (i : Nat) (g : SF) : SF := fun ρ => match frzAt i ρ with
  | some ρ' => g ρ'
  | none => .stuck
theorem fss_frz {i : Nat} {g : SF} (h : PSs X rest (tS X.K π W g)) : PSs X rest (tS X.K π W (frzS i g)) :=
  PSs.imp h fun D σ H ⟨c, F, ρ, h0, S, P⟩ => by
    unfold frzS frzAt at P
    cases e : ρ[i]? with
    | none => rw [e] at P; exact P.elim
    | some s =>
      rw [e] at P
      cases s with
      | own m =>
        cases m with
        | lst ds =>
          obtain ⟨F', _, sm, S'⟩ := S.freeze e h0
          exact ⟨c, F', _, h0, S', PoS.mono sm P⟩
        | ins _ _ => exact P.elim
      | no => exact P.elim
      | val _ => exact P.elim
      | io _ => exact P.elim
/-- some slots are forgotten -/
def wipeR (ks : List Nat) (ρ : Rho) : Rho := ks.foldl (fun ρ i => ρ.set i .no) ρ
theorem Sta.wipe {K : PySem.W.Frag} {c : Cfg} {F H : Hp} {σ : L2.St} : ∀ {ks : List Nat} {ρ : Rho}, Sta K π c F H σ ρ → Sta K π c F H σ (wipeR ks ρ)
  | [], _, S => S
  | k :: ks, _, S => Sta.wipe (ks := ks) (S.forget k)

/-! ### small statements -/
def exS (f : EF) : SF := fun ρ => (f ρ).bind fun _ ρ => .ok .nx ρ
theorem fs_expr {f : EF} (he : PE X e (tE X.K π W f)) (hs : swapsWith e none pos.line X.env = pure false := by rfl) : PS X (.Expr e pos) (tS X.K π W (exS f)) :=
  PS.imp (ps_expr he hs) fun D σ H ⟨c, F, ρ, h0, S, P⟩ => by
    refine pos_bind S P fun v F1 H1 ρ1 d s1 S1 r1 P1 => ?_
    exact P1 σ F1 H1 (Same.refl _) S1
def retS (f : EF) : SF := fun ρ => (f ρ).bind fun d ρ => .ok (.rt (.v d)) ρ
theorem fs_ret {f : EF} (he : PE X e (tE X.K π W f)) : PS X (.Return (some e) pos) (tS X.K π W (retS f)) :=
  PS.imp (ps_ret he) fun D σ H ⟨c, F, ρ, h0, S, P⟩ => by
    refine pos_bind S P fun v F1 H1 ρ1 d s1 S1 r1 P1 => ?_
    exact P1 v σ F1 H1 (Same.refl _) S1 r1
def retM (f : Rho → R M) : SF := fun ρ => (f ρ).bind fun d ρ => .ok (.rt (.m d)) ρ
theorem fs_retM {f : Rho → R M} (he : PE X e (tM X.K π W f)) : PS X (.Return (some e) pos) (tS X.K π W (retM f)) :=
  PS.imp (ps_ret he) fun D σ H ⟨c, F, ρ, h0, S, P⟩ => by
    refine pos_bind S P fun v F1 H1 ρ1 d s1 S1 r1 P1 => ?_
    exact P1 v σ F1 H1 (Same.refl _) S1 r1
def ifS (t : TF) (f g : SF) : SF := fun ρ => (t ρ).bind fun b ρ => if b = true then f ρ else g ρ
theorem fs_if {c : Expr} {xs ys : List Stmt} {t : TF} {f g : SF} (hc : PT X c (tT X.K π W t)) (ha : PSs X xs (tS X.K π W f)) (hb : PSs X ys (tS X.K π W g)) : PS X (.If c xs ys pos) (tS X.K π W (ifS t f g)) :=
  PS.imp (ps_if hc ha hb) fun D σ H ⟨c, F, ρ, h0, S, P⟩ => by
    refine pos_bind S P fun b F1 H1 ρ1 d s1 S1 r1 P1 => ?_
    cases r1
    cases b with
    | true =>
      rw [if_pos rfl] at P1 ⊢
      exact ⟨c, F1, ρ1, h0, S1, P1⟩
    | false =>
      rw [if_neg Bool.false_ne_true] at P1 ⊢
      exact ⟨c, F1, ρ1, h0, S1, P1⟩
theorem fs_pass : PS X (.Pass pos) (tS X.K π W nxS) := PS.imp ps_pass fun D σ H ⟨c, F, ρ, h0, S, P⟩ => P σ F H (Same.refl _) S
def bkS : SF := fun ρ => .ok .bk ρ
def ctS : SF := fun ρ => .ok .ct ρ
theorem fs_break : PS X (.Break pos) (tS X.K π W bkS) := PS.imp ps_break fun D σ H ⟨c, F, ρ, h0, S, P⟩ => P σ F H (Same.refl _) S
theorem fs_continue : PS X (.Continue pos) (tS X.K π W ctS) := PS.imp ps_continue fun D σ H ⟨c, F, ρ, h0, S, P⟩ => P σ F H (Same.refl _) S
def stS : SF := fun _ => .stuck
/-- a statement that the proof never comes to -/
theorem fs_never : PS X st (tS X.K π W stS) := PS.imp (t := tNever) ps_never fun D σ H ⟨c, F, ρ, h0, S, P⟩ => P

/-! ### names stored -/
def setR (i : Nat) (s : Slot) (ρ : Rho) : Option Rho := if i < ρ.length then some (ρ.set i s) else none
def nxO : Option Rho → R Fl
  | some ρ => .ok .nx ρ
  | none => .stuck
def setS (i : Nat) (f : EF) : SF := fun ρ => (f ρ).bind fun d ρ => nxO (setR i (.val d) ρ)
theorem fs_set {i : Nat} {x : Str} {f : EF} {pos' : Pos} (hN : X.N.Nodup) (hi : X.N[i]? = some x) (hx : Loc X.env.scope x) (he : PE X e (tE X.K π W f)) (hs : swapsWith e (some (.Name x pos')) pos.line X.env = pure false := by rfl)
    (hf : X.fn x = true ∨ X.env.scope.names.lookup x = some .local := by first | exact .inl rfl | exact .inr rfl | assumption) : PS X (.Assign [.Name x pos'] e pos) (tS X.K π W (setS i f)) :=
  PS.imp (ps_set hN hi hx he hs hf) fun D σ H ⟨c, F, ρ, h0, S, P⟩ => by
    refine pos_bind S P fun v F1 H1 ρ1 d s1 S1 r1 P1 => ?_
    unfold setR at P1
    split at P1
    · rename_i hl
      exact P1 _ F1 H1 (Same.refl _) (S1.set hl r1)
    · exact P1.elim
def setM (i : Nat) (f : Rho → R M) : SF := fun ρ => (f ρ).bind fun m ρ => nxO (setR i (.own m) ρ)
theorem fs_setM {i : Nat} {x : Str} {f : Rho → R M} {pos' : Pos} (hN : X.N.Nodup) (hi : X.N[i]? = some x) (hx : Loc X.env.scope x) (he : PE X e (tM X.K π W f)) (hs : swapsWith e (some (.Name x pos')) pos.line X.env = pure false := by rfl)
    (hf : X.fn x = true ∨ X.env.scope.names.lookup x = some .local := by first | exact .inl rfl | exact .inr rfl | assumption) : PS X (.Assign [.Name x pos'] e pos) (tS X.K π W (setM i f)) :=
  PS.imp (ps_set hN hi hx he hs hf) fun D σ H ⟨c, F, ρ, h0, S, P⟩ => by
    refine pos_bind S P fun v F1 H1 ρ1 m s1 S1 r1 P1 => ?_
    obtain ⟨p, rfl, f1, f2, f3, hm⟩ := r1
    unfold setR at P1
    split at P1
    · rename_i hl
      exact P1 _ F1 H1 (Same.refl _) (S1.setOwn hl f1 (.inl f2) hm f3)
    · exact P1.elim
/-- targets -/
def nmG (i : Nat) : GF := fun d ρ => setR i (.val d) ρ
theorem fg_name {i : Nat} {x : Str} (hN : X.N.Nodup) (hi : X.N[i]? = some x) (hx : Loc X.env.scope x) (hf : X.fn x = true ∨ X.env.scope.names.lookup x = some .local := by first | exact .inl rfl | exact .inr rfl | assumption) : PG X (.Name x pos) (tGt X.K π [i] (nmG i)) :=
  PG.imp (pg_name hN hi hx hf) fun v σ H Q ⟨c, F, ρ, d, S, r, P⟩ => by
    unfold nmG setR at P
    split at P
    · rename_i hl
      exact P _ F H (Same.refl _) Off.set (S.set hl r)
    · exact P.elim
def nilG : GFs := fun ds ρ => match ds with
  | [] => some ρ
  | _ => none
def cnsG (g : GF) (h : GFs) : GFs := fun ds ρ => match ds with
  | d :: ds => (g d ρ).bind fun ρ => h ds ρ
  | [] => none
theorem fgs_nil : PGs X [] (tGts X.K π [] nilG) := PGs.imp pgs_nil fun vs σ H Q ⟨c, F, ρ, ds, S, r, P⟩ => by
  cases r with
  | nil => exact ⟨rfl, P σ F H (Same.refl _) (Off.refl _) S⟩
  | cons _ _ => exact P.elim
theorem fgs_cons {es : List Expr} {g : GF} {h : GFs} {ns ms : List Nat} (h1 : PG X e (tGt X.K π ns g)) (h2 : PGs X es (tGts X.K π ms h)) (hs : (assignEach (e :: es) X.env).map (·.2) = assign e X.env :: (assignEach es X.env).map (·.2) := by rfl) : PGs X (e :: es) (tGts X.K π (ns ++ ms) (cnsG g h)) :=
  PGs.imp (pgs_cons h1 h2 hs) fun vs σ H Q ⟨c, F, ρ, ds, S, r, P⟩ => by
    cases r with
    | nil => exact P.elim
    | @cons v vs d ds rv rs =>
      refine ⟨v, vs, rfl, c, F, ρ, d, S, rv, ?_⟩
      have P : PoG X.K π (ns ++ ms) c F σ Q ((g d ρ).bind fun ρ => h ds ρ) := P
      cases eg : g d ρ with
      | some ρ' =>
        rw [eg] at P
        have P : PoG X.K π (ns ++ ms) c F σ Q (h ds ρ') := P
        refine fun σ2 F2 H2 s2 of2 S2 => ⟨c, F2, ρ', ds, S2, rs.mono s2, ?_⟩
        cases eh : h ds ρ' with
        | none => rw [eh] at P; exact P
        | some ρ2 =>
          rw [eh] at P
          exact fun σ3 F3 H3 s3 of3 S3 => P σ3 F3 H3 (s2.trans s3) (of2.trans of3) S3
      | none => rw [eg] at P; exact P
def tupG (n : Nat) (h : GFs) : GF := fun d ρ => match d with
  | .tup ds => if ds.length = n then h ds ρ else none
  | _ => none
theorem fg_tup {es : List Expr} {k : Nat} {h : GFs} {n : Nat} (hc : X.calm = true) {ns : List Nat} (hh : PGs X es (tGts X.K π ns h)) (hn : (assignEach es X.env).length = n := by rfl) (hst : (assignEach es X.env).findIdx? (·.1) = none := by rfl) : PG X (.Tuple es k pos) (tGt X.K π ns (tupG n h)) :=
  PG.imp (pg_tup hc hh hn hst) fun v σ H Q ⟨c, F, ρ, d, S, r, P⟩ => by
    cases r with
    | @tup a xs ds h1 r1 =>
      have P : PoG X.K π ns c F σ Q (if ds.length = n then h ds ρ else none) := P
      split at P
      · rename_i hl
        exact ⟨a, xs, rfl, sm_tup S.f h1, by rw [Reps.length r1]; exact hl, c, F, ρ, ds, S, r1, P⟩
      · exact P.elim
    | _ => exact P.elim
def asgS (f : EF) (g : GF) : SF := fun ρ => (f ρ).bind fun d ρ => nxO (g d ρ)
theorem fs_asg {tg : Expr} {f : EF} {g : GF} {ns : List Nat} (he : PE X e (tE X.K π W f)) (hg : PG X tg (tGt X.K π ns g)) (hs : swapsWithSole [tg] e pos.line X.env = pure false := by rfl) (hw : swappedStores [tg] e X.env = pure none := by rfl)
    (h1 : (assignEach [tg] X.env).map (·.2) = [assign tg X.env] := by rfl) : PS X (.Assign [tg] e pos) (tS X.K π W (asgS f g)) :=
  PS.imp (ps_asg he hg hs hw h1) fun D σ H ⟨c, F, ρ, h0, S, P⟩ => by
    refine pos_bind S P fun v F1 H1 ρ1 d s1 S1 r1 P1 => ?_
    refine ⟨c, F1, ρ1, d, S1, r1, ?_⟩
    cases eg : g d ρ1 with
    | some ρ' =>
      rw [eg] at P1
      exact fun σ2 F2 H2 s2 _ S2 => P1 σ2 F2 H2 s2 S2
    | none => rw [eg] at P1; exact P1
/-- a, b = x, y -/
def parS (i j : Nat) (g : Rho → R (List D)) : SF := fun ρ => (g ρ).bind fun ds ρ => nxO (match ds with
  | [x, y] => (setR i (.val x) ρ).bind fun ρ => setR j (.val y) ρ
  | _ => none)
theorem fs_par {i j : Nat} {x y : Str} {px py pt : Pos} {kt k2 pt2} {g : Rho → R (List D)} (hc : X.calm = true) (hN : X.N.Nodup) (hi : X.N[i]? = some x) (hj : X.N[j]? = some y) (hij : i ≠ j)
    (hx : X.env.scope.names.lookup x = some .local) (hy : X.env.scope.names.lookup y = some .local) (ha : PA X [a, b] (tA X.K π W g))
    (hw : swappedStores [.Tuple [.Name x px, .Name y py] kt pt] (.Tuple [a, b] k2 pt2) X.env = pure (some [x, y]))
    (hs : swapsWithSole [.Tuple [.Name x px, .Name y py] kt pt] (.Tuple [a, b] k2 pt2) pos.line X.env = pure false := by rfl) :
    PS X (.Assign [.Tuple [.Name x px, .Name y py] kt pt] (.Tuple [a, b] k2 pt2) pos) (tS X.K π W (parS i j g)) :=
  PS.imp (ps_par hc hN hi hj hij hx hy ha hw hs) fun D σ H ⟨c, F, ρ, h0, S, P⟩ => by
    refine pos_bind S P fun vs F1 H1 ρ1 ds s1 S1 r1 P1 => ?_
    split at P1
    · obtain ⟨v, w, rfl, r2, r3⟩ := Reps.two r1
      unfold setR at P1
      split at P1
      · rename_i hl
        have P1 : PoS X.K π W c F1 σ D (nxO (if j < (ρ1.set i (.val _)).length then some _ else none)) := P1
        split at P1
        · rename_i hl2
          exact ⟨v, w, rfl, P1 _ F1 H1 (Same.refl _) ((S1.set hl r2).set hl2 r3)⟩
        · exact P1.elim
      · exact P1.elim
    · exact P1.elim
def par3S (i j l : Nat) (g : Rho → R (List D)) : SF := fun ρ => (g ρ).bind fun ds ρ => nxO (match ds with
  | [x, y, z] => (setR i (.val x) ρ).bind fun ρ => (setR j (.val y) ρ).bind fun ρ => setR l (.val z) ρ
  | _ => none)
theorem Reps.three {K : PySem.W.Frag} {F : Hp} {vs : List V} {d e f : D} (r : Reps K F vs [d, e, f]) : ∃ v w u, vs = [v, w, u] ∧ Rep K F v d ∧ Rep K F w e ∧ Rep K F u f := by
  cases r with
  | cons h t =>
    obtain ⟨w, u, rfl, h2, h3⟩ := Reps.two t
    exact ⟨_, _, _, rfl, h, h2, h3⟩
theorem setR_some {i : Nat} {s : Slot} {ρ ρ' : Rho} (h : setR i s ρ = some ρ') : i < ρ.length ∧ ρ' = ρ.set i s := by
  unfold setR at h
  split at h
  · cases h
    exact ⟨‹_›, rfl⟩
  · cases h
theorem fs_par3 {i j l : Nat} {x y z : Str} {d : Expr} {px py pz pt : Pos} {kt k2 pt2} {g : Rho → R (List D)} (hc : X.calm = true) (hN : X.N.Nodup) (hi : X.N[i]? = some x) (hj : X.N[j]? = some y) (hl : X.N[l]? = some z) (hij : i ≠ j) (hil : i ≠ l) (hjl : j ≠ l)
    (hx : X.env.scope.names.lookup x = some .local) (hy : X.env.scope.names.lookup y = some .local) (hz : X.env.scope.names.lookup z = some .local) (ha : PA X [a, b, d] (tA X.K π W g))
    (hw : swappedStores [.Tuple [.Name x px, .Name y py, .Name z pz] kt pt] (.Tuple [a, b, d] k2 pt2) X.env = pure (some [x, y, z]))
    (hs : swapsWithSole [.Tuple [.Name x px, .Name y py, .Name z pz] kt pt] (.Tuple [a, b, d] k2 pt2) pos.line X.env = pure false := by rfl) :
    PS X (.Assign [.Tuple [.Name x px, .Name y py, .Name z pz] kt pt] (.Tuple [a, b, d] k2 pt2) pos) (tS X.K π W (par3S i j l g)) :=
  PS.imp (ps_par3 hc hN hi hj hl hij hil hjl hx hy hz ha hw hs) fun D σ H ⟨c, F, ρ, h0, S, P⟩ => by
    refine pos_bind S P fun vs F1 H1 ρ1 ds s1 S1 r1 P1 => ?_
    split at P1
    · rename_i d1 d2 d3
      obtain ⟨v, w, u, rfl, r2, r3, r4⟩ := Reps.three r1
      cases e1 : setR i (.val d1) ρ1 with
      | none => rw [e1] at P1; exact P1.elim
      | some ρ2 =>
        rw [e1] at P1
        obtain ⟨hl1, rfl⟩ := setR_some e1
        cases e2 : setR j (.val d2) (ρ1.set i (.val d1)) with
        | none =>
          have P1 : PoS X.K π W c F1 σ D (nxO ((setR j (.val d2) (ρ1.set i (.val d1))).bind fun ρ => setR l (.val d3) ρ)) := P1
          rw [e2] at P1
          exact P1.elim
        | some ρ3 =>
          have P1 : PoS X.K π W c F1 σ D (nxO ((setR j (.val d2) (ρ1.set i (.val d1))).bind fun ρ => setR l (.val d3) ρ)) := P1
          rw [e2] at P1
          obtain ⟨hl2, rfl⟩ := setR_some e2
          have P1 : PoS X.K π W c F1 σ D (nxO (setR l (.val d3) ((ρ1.set i (.val d1)).set j (.val d2)))) := P1
          cases e3 : setR l (.val d3) ((ρ1.set i (.val d1)).set j (.val d2)) with
          | none => rw [e3] at P1; exact P1.elim
          | some ρ4 =>
            rw [e3] at P1
            obtain ⟨hl3, rfl⟩ := setR_some e3
            exact ⟨v, w, u, rfl, P1 _ F1 H1 (Same.refl _) (((S1.set hl1 r2).set hl2 r3).set hl3 r4)⟩
    · exact P1.elim

/-! ### our own lists -/
/-- the list of slot i, put back by the way it stands -/
def getM (i : Nat) (ρ : Rho) : Option (List D × (List D → Slot)) := match ρ[i]? with
  | some (.own (.lst ds)) => some (ds, fun es => .own (.lst es))
  | some (.io (.lst ds)) => some (ds, fun es => .io (.lst es))
  | _ => none
theorem Sta.getM {K : PySem.W.Frag} {c : Cfg} {F H : Hp} {σ : L2.St} {ρ : Rho} (S : Sta K π c F H σ ρ) {i : Nat} {ds : List D} {k : List D → Slot} (h : FL.getM i ρ = some (ds, k)) :
    ∃ p vs, σ[i]? = some (some (.ref p)) ∧ H p = some (.lst vs) ∧ Reps K F vs ds ∧ ∀ es ws, Reps K F ws es → Sta K π c F (upd H p (.lst ws)) σ (ρ.set i (k es)) := by
  unfold FL.getM at h
  split at h
  · rename_i ds' e
    cases h
    obtain ⟨p, e1, n, fr, vs, ho, r⟩ := S.rep i _ e
    exact ⟨p, vs, e1, ho, r, fun es ws q => S.change (o := .lst ws) ⟨e1, _, .inl e⟩ (m := .lst es) ⟨ws, upd_same, q⟩ _ (.inl ⟨rfl, _, e⟩)⟩
  · rename_i ds' e
    cases h
    obtain ⟨e1, n, fr, vs, ho, r⟩ := S.rep i _ e
    exact ⟨_, vs, e1, ho, r, fun es ws q => S.change (o := .lst ws) ⟨e1, _, .inr e⟩ (m := .lst es) ⟨ws, upd_same, q⟩ _ (.inr ⟨rfl, _, e⟩)⟩
  · cases h
/-- x.append(e) -/
def mutS (i : Nat) (f : EF) (o : List D → D → Option (List D)) : SF := fun ρ => match getM i ρ with
  | none => .stuck
  | some _ => (f ρ).bind fun d ρ => match getM i ρ with
    | some (ds, k) => match o ds d with
      | some es => .ok .nx (ρ.set i (k es))
      | none => .stuck
    | none => .stuck
def appO (ds : List D) (d : D) : Option (List D) := if small (ds.length + 1) = true then some (ds ++ [d]) else none
def extO (ds : List D) (d : D) : Option (List D) := match d with
  | .lst es => if small (ds.length + es.length) = true then some (ds ++ es) else none
  | _ => none
/-- what a method of our own list asks -/
theorem rd_mut {K : PySem.W.Frag} {i : Nat} {f : EF} {o : List D → D → Option (List D)} {r : V → List V → Hp → VK → Prop} {σ : L2.St} {H : Hp} {D : Ends}
    (q : ∀ {F H : Hp} {p : Addr} {vs : List V} {ds es : List FL.D} {v : V} {d : FL.D} {Q : VK}, Same F H → H p = some (.lst vs) → Reps K F vs ds → Rep K F v d → o ds d = some es → (∀ ws, Reps K F ws es → Q .non (upd H p (.lst ws))) → r (.ref p) [v] H Q)
    (h : tS K π W (mutS i f o) D σ H) : tDrop (tBM K "list" r (tVar i) (tCons (tE K π W f) tNil)) D σ H := by
  obtain ⟨c, F, ρ, h0, S, P⟩ := h
  unfold mutS at P
  split at P
  · exact P.elim
  · rename_i z eg
    obtain ⟨ds0, k0⟩ := z
    obtain ⟨p, vs0, e0, ho0, _⟩ := S.getM eg
    refine ⟨.ref p, e0, .inl ⟨rfl, vs0, SqL.of ho0⟩, ?_⟩
    have key : tE K π W f σ H fun v H1 => r (.ref p) [v] H1 fun _ H2 => D.nx σ H2 := by
      refine pos_bind S P fun v F1 H1 ρ1 d s1 S1 r1 P1 => ?_
      split at P1
      · rename_i ds k eg2
        split at P1
        · rename_i es eo
          obtain ⟨p', vs, e1, ho, rr, fin⟩ := S1.getM eg2
          rw [e0] at e1
          cases e1
          exact q S1.f ho rr r1 eo fun ws hw => P1 _ F1 _ (Same.refl _) (fin _ _ hw)
        · exact P1.elim
      · exact P1.elim
    exact key
theorem fs_append {i : Nat} {x : Str} {f : EF} {p apos cpos : Pos} (hx : PE X (.Name x p) (tVar i)) (he : PE X e (tE X.K π W f)) (hs : swapsWith (.Call (.Attribute (.Name x p) "append" apos) [e] [] cpos) none pos.line X.env = pure false := by rfl)
    (hbase : attributeBase (.Name x p) "append" X.env (eval (.Name x p) X.env) = eval (.Name x p) X.env := by rfl)
    (hfew : ((backTo cpos (starEach [e] X.env)).all (fun x => !x.1) && (backToKw cpos (keywordEach [] X.env)).all (fun x => x.1.isSome) && decide ([e].length + ([] : List Keyword).length + (if ([] : List Keyword).isEmpty then 0 else 1) < 30)) = true := by rfl)
    (hline : (apos.endLine == cpos.line) = true := by rfl) (hst : starEach [e] X.env = (false, eval e X.env) :: starEach [] X.env := by rfl) :
    PS X (.Expr (.Call (.Attribute (.Name x p) "append" apos) [e] [] cpos) pos) (tS X.K π W (mutS i f appO)) :=
  PS.imp (ps_expr (pe_bm PySem.F.plainAttrs_list PySem.F.slot_list_append PySem.F.type_list_append mt_append hx (pa_cons he pa_nil hst) hbase hfew hline hst (by rfl)) hs) fun D σ H h =>
    rd_mut (r := rAppend) (fun {F H p vs ds es v d Q} s ho rr rv eo k => by
      unfold appO at eo
      split at eo
      · rename_i hz
        cases eo
        have hl := small_le hz
        exact ⟨p, vs, v, rfl, rfl, ho, lt_line (by rw [Reps.length rr]; omega), k _ (rr.snoc rv)⟩
      · cases eo) h
theorem fs_extend {i : Nat} {x : Str} {f : EF} {p apos cpos : Pos} (hx : PE X (.Name x p) (tVar i)) (he : PE X e (tE X.K π W f)) (hs : swapsWith (.Call (.Attribute (.Name x p) "extend" apos) [e] [] cpos) none pos.line X.env = pure false := by rfl)
    (hbase : attributeBase (.Name x p) "extend" X.env (eval (.Name x p) X.env) = eval (.Name x p) X.env := by rfl)
    (hfew : ((backTo cpos (starEach [e] X.env)).all (fun x => !x.1) && (backToKw cpos (keywordEach [] X.env)).all (fun x => x.1.isSome) && decide ([e].length + ([] : List Keyword).length + (if ([] : List Keyword).isEmpty then 0 else 1) < 30)) = true := by rfl)
    (hline : (apos.endLine == cpos.line) = true := by rfl) (hst : starEach [e] X.env = (false, eval e X.env) :: starEach [] X.env := by rfl) :
    PS X (.Expr (.Call (.Attribute (.Name x p) "extend" apos) [e] [] cpos) pos) (tS X.K π W (mutS i f extO)) :=
  PS.imp (ps_expr (pe_bm PySem.F.plainAttrs_list PySem.F.slot_list_extend PySem.F.type_list_extend mt_extend hx (pa_cons he pa_nil hst) hbase hfew hline hst (by rfl)) hs) fun D σ H h =>
    rd_mut (r := rExtend) (fun {F H p vs ds es v d Q} s ho rr rv eo k => by
      unfold extO at eo
      split at eo
      · rename_i zs
        split at eo
        · rename_i hz
          cases eo
          have hl := small_le hz
          cases rv with
          | @lst b zv _ h1 r1 => exact ⟨p, b, vs, zv, rfl, rfl, ho, s _ _ h1, le_line (by rw [Reps.length rr, Reps.length r1]; exact hl), k _ (rr.append r1)⟩
        · cases eo
      · cases eo) h
/-- x[j] = e, of our own list -/
def putO (ds : List D) (j : D) (d : D) : Option (List D) := match j with
  | .int z => match ixN ds.length z with
    | some n => some (ds.set n d)
    | none => none
  | _ => none
def subG (i : Nat) (g : EF) : D → Rho → R Unit := fun d ρ => match getM i ρ with
  | none => .stuck
  | some _ => (g ρ).bind fun j ρ => match getM i ρ with
    | some (ds, k) => match putO ds j d with
      | some es => .ok () (ρ.set i (k es))
      | none => .stuck
    | none => .stuck
def subS (i : Nat) (f g : EF) : SF := fun ρ => (f ρ).bind fun d ρ => (subG i g d ρ).bind fun _ ρ => .ok .nx ρ
theorem fs_sub {i : Nat} {x : Str} {j : Expr} {f g : EF} {p tpos : Pos} (hx : PE X (.Name x p) (tVar i)) (he : PE X e (tE X.K π W f)) (hj : PE X j (tE X.K π W g))
    (ha : ∀ v, assign (.Subscript (.Name x p) j tpos) X.env v = (do
      let ov ← holding [v] (eval (.Name x p) X.env)
      let iv ← holding [v, ov] (eval j X.env)
      standAt tpos
      holding [v, ov, iv] (setItem ov iv v)
      release [v, ov, iv] []) := by intro _; rfl)
    (hs : swapsWithSole [(.Subscript (.Name x p) j tpos)] e pos.line X.env = pure false := by rfl) (hw : swappedStores [(.Subscript (.Name x p) j tpos)] e X.env = pure none := by rfl)
    (h1 : (assignEach [(.Subscript (.Name x p) j tpos)] X.env).map (·.2) = [assign (.Subscript (.Name x p) j tpos) X.env] := by rfl) :
    PS X (.Assign [.Subscript (.Name x p) j tpos] e pos) (tS X.K π W (subS i f g)) :=
  PS.imp (ps_asg he (pg_sub hx hj set_list ha) hs hw h1) fun D σ H ⟨c, F, ρ, h0, S, P⟩ => by
    refine pos_bind S P fun v F1 H1 ρ1 d s1 S1 r1 P1 => ?_
    unfold subG at P1
    split at P1
    · exact P1.elim
    · rename_i z eg
      obtain ⟨ds0, k0⟩ := z
      obtain ⟨q, vs0, e0, ho0, _⟩ := S1.getM eg
      refine ⟨.ref q, e0, ?_⟩
      have P2 : PoS X.K π W c F1 σ D ((g ρ1).bind fun j ρ => (match getM i ρ with
        | some (ds, k) => match putO ds j d with
          | some es => (R.ok () (ρ.set i (k es)) : R Unit)
          | none => .stuck
        | none => .stuck).bind fun _ ρ => .ok .nx ρ) := by
        cases hg : g ρ1 with
        | ok a b => rw [hg] at P1; exact P1
        | exc C fs b => rw [hg] at P1; exact P1
        | stuck => rw [hg] at P1; exact P1
      refine pos_bind S1 P2 fun w F2 H2 ρ2 dj s2 S2 r2 P3 => ?_
      cases eg2 : getM i ρ2 with
      | none => rw [eg2] at P3; exact P3.elim
      | some z =>
        obtain ⟨ds, k⟩ := z
        rw [eg2] at P3
        obtain ⟨q', vs, e1, ho, rr, fin⟩ := S2.getM eg2
        rw [e0] at e1
        cases e1
        cases ep : putO ds dj d with
        | none =>
          have P3 : PoS X.K π W c F2 σ D ((match putO ds dj d with
            | some es => (R.ok () (ρ2.set i (k es)) : R Unit)
            | none => .stuck).bind fun _ ρ => .ok .nx ρ) := P3
          rw [ep] at P3
          exact P3.elim
        | some es =>
          have P3 : PoS X.K π W c F2 σ D ((match putO ds dj d with
            | some es => (R.ok () (ρ2.set i (k es)) : R Unit)
            | none => .stuck).bind fun _ ρ => .ok .nx ρ) := P3
          rw [ep] at P3
          have P3 : PoS X.K π W c F2 σ D (.ok .nx (ρ2.set i (k es))) := P3
          unfold putO at ep
          split at ep
          · rename_i zz
            split at ep
            · rename_i n en
              cases ep
              cases r2
              refine ⟨q, vs, zz, n, rfl, rfl, ho, by rw [Reps.length rr]; exact en, P3 _ F2 _ (Same.refl _) (fin _ _ (Reps.set (Rep.mono s2 r1) n rr))⟩
            · cases ep
          · cases ep
/-- x[j], of our own list -/
def ixM (i : Nat) (g : EF) : EF := fun ρ => match getM i ρ with
  | none => .stuck
  | some _ => (g ρ).bind fun j ρ => match getM i ρ, j with
    | some (ds, _), .int z => R.of (atI ds z) ρ
    | _, _ => .stuck
theorem fe_ixM {i : Nat} {x : Str} {g : EF} {p : Pos} (hx : PE X (.Name x p) (tVar i)) (hb : PE X b (tE X.K π W g)) (hs : PlainIx b) : PE X (.Subscript (.Name x p) b pos) (tE X.K π W (ixM i g)) :=
  PE.imp (pe_ix ix_list hx hb hs) fun σ H Q ⟨c, F, ρ, S, P⟩ => by
    unfold ixM at P
    split at P
    · exact P.elim
    · rename_i z eg
      obtain ⟨ds0, k0⟩ := z
      obtain ⟨q, vs0, e0, ho0, _⟩ := S.getM eg
      refine ⟨.ref q, e0, ?_⟩
      refine po_bind S P fun w F2 H2 ρ2 dj s2 S2 r2 P3 => ?_
      cases eg2 : getM i ρ2 with
      | none =>
        rw [eg2] at P3
        exact P3.elim
      | some z =>
        obtain ⟨ds, k⟩ := z
        rw [eg2] at P3
        obtain ⟨q', vs, e1, ho, rr, fin⟩ := S2.getM eg2
        rw [e0] at e1
        cases e1
        cases r2 <;> first | (exact P3.elim) | skip
        rename_i zz
        obtain ⟨d, ed, P4⟩ := po_of P3
        obtain ⟨v, h2, r3⟩ := rr.atI ed
        exact ⟨q, vs, zz, v, rfl, rfl, SqL.of ho, h2, P4 v F2 H2 (Same.refl _) S2 r3⟩
/-- len of our own list -/
def lenM (i : Nat) : EF := fun ρ => match getM i ρ with
  | some (ds, _) => .ok (.int ds.length) ρ
  | none => .stuck
theorem fe_lenM {i : Nat} {x y : Str} {p q : Pos} (hx : PE X (.Name x p) (tVar i)) (hy : y = "len" := by rfl) (hg : Gl X y) (hm : X.mg y = none) (he : starEach [.Name x p] X.env = (false, eval (.Name x p) X.env) :: starEach [] X.env := by rfl) (hpl : (backTo pos (starEach [] X.env)).any (·.1) = false := by rfl) :
    PE X (.Call (.Name y q) [.Name x p] [] pos) (tE X.K π W (lenM i)) := by
  subst hy
  exact PE.imp (pe_callB (o_len (X := X)) hg hm boot_len (pa_cons hx pa_nil he) (by decide) (by decide) he hpl) fun σ H Q ⟨c, F, ρ, S, P⟩ => by
    unfold lenM at P
    split at P
    · rename_i ds k eg
      obtain ⟨q', vs, e1, ho, rr, fin⟩ := S.getM eg
      exact ⟨.ref q', e1, .ref q', vs.length, rfl, .inl ⟨vs, SqL.of ho, rfl⟩, by rw [Reps.length rr]; exact P _ F H (Same.refl _) S (.int _)⟩
    · exact P.elim
end
end FL
/-! FL6: loops, comprehensions. -/
namespace FL
open PySem PySem.Spec PyProof.Rows L2

/-! ### while -/
def whN (ks : List Nat) (t : TF) (b : SF) : Nat → Rho → R Fl
  | 0, _ => .stuck
  | n + 1, ρ => (t ρ).bind fun c ρ => if c = true then (b ρ).bind fun fl ρ => match fl with
      | .nx => whN ks t b n (wipeR ks ρ)
      | .ct => whN ks t b n (wipeR ks ρ)
      | .bk => .ok .nx (wipeR ks ρ)
      | .rt r => .ok (.rt r) ρ
    else .ok .nx ρ
def isStuck : R Fl → Bool
  | .stuck => true
  | _ => false
open Classical in
noncomputable def whS (ks : List Nat) (t : TF) (b : SF) : SF := fun ρ => if h : ∃ n, isStuck (whN ks t b n ρ) = false then whN ks t b (Classical.choose h) ρ else .stuck
theorem whN_mono {ks : List Nat} {t : TF} {b : SF} : ∀ {n m : Nat} {ρ : Rho}, n ≤ m → isStuck (whN ks t b n ρ) = false → whN ks t b m ρ = whN ks t b n ρ
  | 0, _, _, _, h => by cases h
  | n + 1, 0, _, hl, _ => by omega
  | n + 1, m + 1, ρ, hl, h => by
    unfold whN at h ⊢
    cases et : t ρ with
    | stuck => rfl
    | exc C fs ρ' => rfl
    | ok c ρ' =>
      rw [et] at h
      simp only [R.ok_bind] at h ⊢
      cases c with
      | false => rfl
      | true =>
        rw [if_pos rfl] at h ⊢
        cases eb : b ρ' with
        | stuck => rfl
        | exc C fs ρ2 => simp only [eb, R.exc_bind]; rfl
        | ok fl ρ2 =>
          rw [eb] at h
          simp only [R.ok_bind, if_true] at h ⊢
          cases fl with
          | nx => exact whN_mono (by omega) h
          | ct => exact whN_mono (by omega) h
          | bk => rfl
          | rt r => rfl
theorem whS_eq {ks : List Nat} {t : TF} {b : SF} {n : Nat} {ρ : Rho} (h : isStuck (whN ks t b n ρ) = false) : whS ks t b ρ = whN ks t b n ρ := by
  have hx : ∃ n, isStuck (whN ks t b n ρ) = false := ⟨n, h⟩
  unfold whS
  rw [dif_pos hx]
  have h2 := Classical.choose_spec hx
  rcases Nat.le_total n (Classical.choose hx) with z | z
  · exact whN_mono z h
  · exact (whN_mono z h2).symm
section
variable {X : Cx} {π : Nat → Addr} {W : WX} {pos : Pos}
theorem fs_while {cx : Expr} {body : List Stmt} {t : TF} {b : SF} {ks : List Nat} (hp : PassesOwn (model X.prog X.w) X.A X.env X.xe) (hc : PT X cx (tT X.K π W t)) (hb : PSs X body (tS X.K π W b)) : PS X (.While cx body [] pos) (tS X.K π W (whS ks t b)) :=
  PS.imp (ps_while hp hc hb) fun D σ H ⟨c, F, ρ, h0, S, P⟩ => by
    unfold whS at P
    split at P
    · rename_i hx
      generalize Classical.choose hx = n at P
      refine ⟨fun m σ H => ∃ F ρ, Sta X.K π c F H σ ρ ∧ PoS X.K π W c F σ D (whN ks t b m ρ), ⟨n, F, ρ, S, P⟩, ?_⟩
      rintro m σ1 H1 ⟨F1, ρ1, S1, P1⟩
      cases m with
      | zero => exact P1.elim
      | succ m =>
        unfold whN at P1
        refine pos_bind S1 P1 fun b' F2 H2 ρ2 d s2 S2 r2 P2 => ?_
        cases r2
        cases b' with
        | false =>
          rw [if_neg Bool.false_ne_true] at P2 ⊢
          exact P2 σ1 F2 H2 (Same.refl _) S2
        | true =>
          rw [if_pos rfl] at P2 ⊢
          refine ⟨fun σ3 H3 => ∃ F3 ρ3, Sta X.K π c F3 H3 σ3 ρ3 ∧ PoS X.K π W c F3 σ3 D (whN ks t b m ρ3), fun σ3 H3 w => ⟨m, Nat.lt_succ_self m, w⟩, c, F2, ρ2, h0, S2, ?_⟩
          cases eb : b ρ2 with
          | stuck => rw [eb] at P2; exact P2
          | exc C fs ρ3 => rw [eb] at P2; exact P2
          | ok fl ρ3 =>
            rw [eb] at P2
            cases fl with
            | nx => exact fun σ3 F3 H3 s3 S3 => ⟨F3, _, S3.wipe, PoS.mono s3 P2⟩
            | ct => exact fun σ3 F3 H3 s3 S3 => ⟨F3, _, S3.wipe, PoS.mono s3 P2⟩
            | bk => exact fun σ3 F3 H3 s3 S3 => P2 σ3 F3 H3 s3 S3.wipe
            | rt r => exact P2
    · exact P.elim
end

/-! ### what is walked -/
structure Wk (K : PySem.W.Frag) (F : Hp) (J : It) (ds : List D) : Prop where
  go : ∀ F' H', Same F F' → Same F' H' → ∀ i d, ds[i]? = some d → J.go i H' ∧ ∀ x H2, J.yld i H' x H2 → ∃ F2, Grw F' H' F2 H2 ∧ Rep K F2 x d
  stop : ∀ H', Same F H' → J.stop ds.length H'
theorem Wk.mono {K : PySem.W.Frag} {F F' : Hp} {J : It} {ds : List D} (w : Wk K F J ds) (s : Same F F') : Wk K F' J ds := ⟨fun F2 H2 s1 s2 => w.go F2 H2 (s.trans s1) s2, fun H2 s1 => w.stop H2 (s.trans s1)⟩
def relI (K : PySem.W.Frag) : Rel It (List D) := fun _ F _ _ _ J ds => Wk K F J ds
abbrev IF := Rho → R (List D)
abbrev tI (K : PySem.W.Frag) (π : Nat → Addr) (W : WX) (it : IF) : TI := tG K π W (relI K) it
section
variable {X : Cx} {π : Nat → Addr} {W : WX} {tg e a b : Expr} {pos p : Pos}
theorem PI.imp {w w' : TI} (h : PI X tg e w) (k : ∀ σ H R, w' σ H R → w σ H R) : PI X tg e w' := ⟨fun pins s σ H R I q => h.run pins s σ H R I (k σ H R q)⟩
def seqD : D → Option (List D)
  | .tup xs => some xs
  | .lst xs => some xs
  | .scr ns => some (ns.map D.int)
  | _ => none
def seqI (f : EF) : IF := fun ρ => (f ρ).bind fun d ρ => R.of (seqD d) ρ
theorem wk_listL {K : PySem.W.Frag} {F : Hp} {q : Addr} {xs : List V} {ds : List D} (h : SqL K F q xs) (r : Reps K F xs ds) : Wk K F (Itl K q) ds := by
  refine ⟨fun F' H' s1 s2 i d hd => ?_, fun H' s => ⟨xs, Same.seq s h, by rw [Reps.length r]; exact Nat.le_refl _⟩⟩
  obtain ⟨v, hv, rv⟩ := r.get hd
  refine ⟨⟨xs, v, Same.seq (s1.trans s2) h, hv⟩, fun x H2 ⟨e1, e2⟩ => ?_⟩
  subst e1
  have := e2 xs (Same.seq (s1.trans s2) h)
  rw [hv] at this
  cases this
  exact ⟨F', Grw.refl s2, rv.mono s1⟩
theorem wk_tup {K : PySem.W.Frag} {F : Hp} {q : Addr} {xs : List V} {ds : List D} (h : SqT K F q xs) (r : Reps K F xs ds) : Wk K F (Itt K q) ds := by
  refine ⟨fun F' H' s1 s2 i d hd => ?_, fun H' s => ⟨xs, sm_tup s h, by rw [Reps.length r]; exact Nat.le_refl _⟩⟩
  obtain ⟨v, hv, rv⟩ := r.get hd
  refine ⟨⟨xs, v, sm_tup (s1.trans s2) h, hv⟩, fun x H2 ⟨e1, e2⟩ => ?_⟩
  subst e1
  have := e2 xs (sm_tup (s1.trans s2) h)
  rw [hv] at this
  cases this
  exact ⟨F', Grw.refl s2, rv.mono s1⟩
theorem PI.or {w w' : TI} (h : PI X tg e w) (h' : PI X tg e w') : PI X tg e (fun σ H R => w σ H R ∨ w' σ H R) := ⟨fun pins s σ H R I q => q.elim (h.run pins s σ H R I) (h'.run pins s σ H R I)⟩
theorem fi_seq {f : EF} (he : PE X e (tE X.K π W f)) : PI X tg e (tI X.K π W (seqI f)) :=
  PI.imp (PI.or (pi_list he) (pi_tup he)) fun σ H R ⟨c, F, ρ, S, P⟩ => by
    unfold seqI at P
    cases ef : f ρ with
    | stuck => rw [ef] at P; exact P.elim
    | exc C fs ρ1 =>
      rw [ef] at P
      exact .inl ⟨c, F, ρ, S, by rw [ef]; exact P⟩
    | ok d ρ1 =>
      rw [ef] at P
      have P : Po X.K π W (relI X.K) c F σ R (FL.R.of (seqD d) ρ1) := P
      cases d <;> first | (exact P.elim) | skip
      · rename_i xs
        refine .inr ⟨c, F, ρ, S, ?_⟩
        rw [ef]
        intro v F1 H1 s1 S1 r1
        cases r1 with
        | @tup q vs _ h1 r1 => exact ⟨q, rfl, ⟨vs, sm_tup S1.f h1⟩, P _ F1 H1 s1 S1 (wk_tup h1 r1)⟩
      · rename_i xs
        refine .inl ⟨c, F, ρ, S, ?_⟩
        rw [ef]
        intro v F1 H1 s1 S1 r1
        cases r1 with
        | @lst q vs _ h1 r1 => exact ⟨q, rfl, ⟨vs, SqL.of (S1.f _ _ h1)⟩, P _ F1 H1 s1 S1 (wk_listL (SqL.of h1) r1)⟩
      · rename_i ns
        refine .inl ⟨c, F, ρ, S, ?_⟩
        rw [ef]
        intro v F1 H1 s1 S1 r1
        cases r1 with
        | @scr q _ h1 => exact ⟨q, rfl, ⟨_, Same.seq S1.f h1⟩, P _ F1 H1 s1 S1 (wk_listL h1 (Reps.ints _))⟩
/-- range -/
def rangeL (lo : Int) : Nat → List D
  | 0 => []
  | n + 1 => .int lo :: rangeL (lo + 1) n
theorem rangeL_length : ∀ (n : Nat) (lo : Int), (rangeL lo n).length = n
  | 0, _ => rfl
  | n + 1, lo => by rw [rangeL, List.length_cons, rangeL_length n]
theorem rangeL_get : ∀ (n : Nat) (lo : Int) (i : Nat) (d : D), (rangeL lo n)[i]? = some d → i < n ∧ d = .int (lo + i)
  | 0, _, _, _, h => by simp [rangeL] at h
  | n + 1, lo, 0, d, h => by
    simp [rangeL] at h
    exact ⟨by omega, by rw [← h]; simp⟩
  | n + 1, lo, i + 1, d, h => by
    obtain ⟨h1, h2⟩ := rangeL_get n (lo + 1) i d (by simpa [rangeL] using h)
    refine ⟨by omega, ?_⟩
    rw [h2]
    congr 1
    omega
theorem wk_range {K : PySem.W.Frag} {F : Hp} {lo : Int} {n : Nat} : Wk K F (Itr lo n) (rangeL lo n) := by
  refine ⟨fun F' H' s1 s2 i d hd => ?_, fun H' s => ?_⟩
  · obtain ⟨h1, rfl⟩ := rangeL_get n lo i d hd
    refine ⟨h1, fun x H2 ⟨e1, e2⟩ => ?_⟩
    subst e1
    subst e2
    exact ⟨F', Grw.refl s2, .int _⟩
  · rw [rangeL_length]
    exact Nat.le_refl _
def rgOk (i : Int) : Bool := decide (-(2 ^ 62) ≤ i) && decide (i < 2 ^ 62)
def rng1 (g : Rho → R (List D)) : IF := fun ρ => (g ρ).bind fun ds ρ => R.of (match ds with
  | [.int j] => if rgOk j = true then some (rangeL 0 j.toNat) else none
  | _ => none) ρ
def rng2 (g : Rho → R (List D)) : IF := fun ρ => (g ρ).bind fun ds ρ => R.of (match ds with
  | [.int i, .int j] => if rgOk i = true ∧ rgOk j = true then some (rangeL i (j - i).toNat) else none
  | _ => none) ρ
theorem fi_range1 {g : Rho → R (List D)} (hg : Gl X "range") (hm : X.mg "range" = none) (ha : PA X [a] (tA X.K π W g)) (hs : starEach [a] X.env = [(false, eval a X.env)] := by rfl) : PI X tg (.Call (.Name "range" p) [a] [] pos) (tI X.K π W (rng1 g)) :=
  PI.imp (pi_range1 hg hm ha hs) fun σ H R ⟨c, F, ρ, S, P⟩ => by
    refine po_bind S P fun vs F1 H1 ρ1 ds s1 S1 r1 P1 => ?_
    obtain ⟨l, e, P2⟩ := po_of P1
    split at e
    · rename_i j
      split at e
      · rename_i hz
        cases e
        obtain ⟨v, rfl, h⟩ := Reps.one r1
        cases h
        unfold rgOk at hz
        rw [Bool.and_eq_true, decide_eq_true_eq, decide_eq_true_eq] at hz
        exact ⟨j, rfl, hz.1, hz.2, P2 _ F1 H1 (Same.refl _) S1 wk_range⟩
      · cases e
    · cases e
theorem fi_range2 {g : Rho → R (List D)} (hg : Gl X "range") (hm : X.mg "range" = none) (ha : PA X [a, b] (tA X.K π W g)) (hs : starEach [a, b] X.env = [(false, eval a X.env), (false, eval b X.env)] := by rfl) (hs2 : starEach [b] X.env = [(false, eval b X.env)] := by rfl) :
    PI X tg (.Call (.Name "range" p) [a, b] [] pos) (tI X.K π W (rng2 g)) :=
  PI.imp (pi_range2 hg hm ha hs hs2) fun σ H R ⟨c, F, ρ, S, P⟩ => by
    refine po_bind S P fun vs F1 H1 ρ1 ds s1 S1 r1 P1 => ?_
    obtain ⟨l, e, P2⟩ := po_of P1
    split at e
    · rename_i i j
      split at e
      · rename_i hz
        cases e
        obtain ⟨v, w, rfl, h, h2⟩ := Reps.two r1
        cases h
        cases h2
        unfold rgOk at hz
        rw [Bool.and_eq_true, Bool.and_eq_true, decide_eq_true_eq, decide_eq_true_eq, decide_eq_true_eq, decide_eq_true_eq] at hz
        exact ⟨i, j, rfl, ⟨hz.1.1, hz.1.2, hz.2.1, hz.2.2⟩, P2 _ F1 H1 (Same.refl _) S1 wk_range⟩
      · cases e
    · cases e

/-! ### for -/
/-- behind a turn -/
def aftF (ks : List Nat) (k : Rho → R Fl) : Fl → Rho → R Fl
  | .nx, ρ => k (wipeR ks ρ)
  | .ct, ρ => k (wipeR ks ρ)
  | .bk, ρ => .ok .nx (wipeR ks ρ)
  | .rt r, ρ => .ok (.rt r) ρ
def bindO {α : Type} (x : Option Rho) (k : Rho → R α) : R α := match x with
  | some ρ => k ρ
  | none => .stuck
def forL (ks : List Nat) (g : GF) (b : SF) : List D → Rho → R Fl
  | [], ρ => .ok .nx ρ
  | d :: ds, ρ => bindO (g d ρ) fun ρ => (b ρ).bind (aftF ks (forL ks g b ds))
def forS (ks : List Nat) (it : IF) (g : GF) (b : SF) : SF := fun ρ => (it ρ).bind fun ds ρ => forL ks g b ds ρ
theorem fs_for {body : List Stmt} {it : IF} {g : GF} {b : SF} {ks ns : List Nat} (hp : PassesOwn (model X.prog X.w) X.A X.env X.xe) (hc : X.calm = true) (hi : PI X tg e (tI X.K π W it)) (hg : PG X tg (tGt X.K π ns g)) (hb : PSs X body (tS X.K π W b))
    (hs : ∀ x, foldedSetIterable e X.env x = pure x := by intro _; rfl) : PS X (.For tg e body [] pos) (tS X.K π W (forS ks it g b)) :=
  PS.imp (ps_for hp hc hi hg hb hs) fun D σ H ⟨c, F, ρ, h0, S, P⟩ => by
    refine pos_bind S P fun J F1 H1 ρ1 ds s1 S1 wk P1 => ?_
    refine ⟨fun i m σ H => i + m = ds.length ∧ ∃ F ρ, Same F1 F ∧ Sta X.K π c F H σ ρ ∧ PoS X.K π W c F σ D (forL ks g b (ds.drop i) ρ), ⟨ds.length, by omega, F1, ρ1, Same.refl _, S1, P1⟩, ?_⟩
    rintro i m σ2 H2 ⟨him, F2, ρ2, s2, S2, P2⟩
    cases m with
    | zero =>
      have hi : i = ds.length := by omega
      subst hi
      rw [List.drop_length] at P2
      exact .inl ⟨wk.stop H2 (s2.trans S2.f), P2 σ2 F2 H2 (Same.refl _) S2⟩
    | succ m =>
      have hlt : i < ds.length := by omega
      obtain ⟨hgo, hy⟩ := wk.go F2 H2 s2 S2.f i ds[i] (by simp [hlt])
      rw [List.drop_eq_getElem_cons hlt] at P2
      refine .inr ⟨hgo, fun σ3 H3 => ∃ F3 ρ3, Same F1 F3 ∧ Sta X.K π c F3 H3 σ3 ρ3 ∧ PoS X.K π W c F3 σ3 D (forL ks g b (ds.drop (i + 1)) ρ3), fun σ3 H3 ⟨F3, ρ3, a1, a2, a3⟩ => ⟨m, Nat.lt_succ_self m, by omega, F3, ρ3, a1, a2, a3⟩, fun x H3 yl => ?_⟩
      obtain ⟨F3, gr, rx⟩ := hy x H3 yl
      refine ⟨c, F3, ρ2, ds[i], S2.grow gr, rx, ?_⟩
      have P2 : PoS X.K π W c F2 σ2 D (bindO (g ds[i] ρ2) fun ρ => (b ρ).bind (aftF ks (forL ks g b (ds.drop (i + 1))))) := P2
      cases eg : g ds[i] ρ2 with
      | none => rw [eg] at P2; exact P2
      | some ρ3 =>
        rw [eg] at P2
        intro σ4 F4 H4 s4 of4 S4
        refine ⟨c, F4, ρ3, h0, S4, ?_⟩
        have P2 : PoS X.K π W c F4 σ4 D ((b ρ3).bind (aftF ks (forL ks g b (ds.drop (i + 1))))) := PoS.mono (gr.f.trans s4) P2
        have s14 : Same F1 F4 := s2.trans (gr.f.trans s4)
        cases eb : b ρ3 with
        | stuck => rw [eb] at P2; exact P2
        | exc C fs ρ4 => rw [eb] at P2; exact P2
        | ok fl ρ4 =>
          rw [eb] at P2
          cases fl with
          | nx => exact fun σ5 F5 H5 s5 S5 => ⟨F5, _, s14.trans s5, S5.wipe, PoS.mono s5 P2⟩
          | ct => exact fun σ5 F5 H5 s5 S5 => ⟨F5, _, s14.trans s5, S5.wipe, PoS.mono s5 P2⟩
          | bk => exact fun σ5 F5 H5 s5 S5 => P2 σ5 F5 H5 s5 S5.wipe
          | rt r => exact P2

end

/-! ### comprehensions -/
/-- an exception: nothing is said of it -/
def noX {α : Type} (x : R α) : R α := match x with
  | .exc _ _ _ => .stuck
  | y => y
abbrev W0 : WX := fun _ _ _ _ => False
/-- the turns of a comprehension -/
def cmpL (ks : List Nat) (g : GF) (t : TF) (f : EF) : List D → List D → Rho → R M
  | acc, [], ρ => .ok (.lst acc) ρ
  | acc, d :: ds, ρ => bindO (g d ρ) fun ρ => (noX (t ρ)).bind fun b ρ => if b = true then (noX (f ρ)).bind fun x ρ => if small (acc.length + 1) = true then cmpL ks g t f (acc ++ [x]) ds (wipeR ks ρ) else .stuck else cmpL ks g t f acc ds (wipeR ks ρ)
/-- the slots of a comprehension's names as they were -/
def resR : List Nat → Rho → Rho → Option Rho
  | [], _, ρ => some ρ
  | k :: ks, ρ0, ρ => match ρ0[k]? with
    | some (.val d) => resR ks ρ0 (ρ.set k (.val d))
    | some .no => resR ks ρ0 (ρ.set k .no)
    | none => resR ks ρ0 ρ
    | _ => none
def cmpM (ks : List Nat) (it : IF) (g : GF) (t : TF) (f : EF) : Rho → R M := fun ρ => (it ρ).bind fun ds ρ0 => (cmpL ks g t f [] ds (wipeR ks ρ0)).bind fun m ρ => bindO (resR ks ρ0 ρ) fun ρ => .ok m ρ
theorem wipe_at {σ : L2.St} {j : Nat} : ∀ {vs : List Nat}, j ∈ vs → j < σ.length → (wipe σ vs)[j]? = some none
  | v :: vs, h, hl => by
    unfold wipe
    by_cases e : v = j
    · subst e
      exact List.getElem?_set_self (by rw [wipe_length]; exact hl)
    · rw [List.getElem?_set_ne e]
      exact wipe_at ((List.mem_cons.mp h).resolve_left (fun z => e z.symm)) hl
theorem wipe_off {σ σ' : L2.St} {vs : List Nat} (h : Off vs σ σ') : wipe σ' vs = wipe σ vs := by
  refine List.ext_getElem? fun j => ?_
  by_cases hj : j ∈ vs
  · by_cases hl : j < σ.length
    · rw [wipe_at hj hl, wipe_at hj (by rw [h.1]; exact hl)]
    · rw [List.getElem?_eq_none (by rw [wipe_length, h.1]; omega), List.getElem?_eq_none (by rw [wipe_length]; omega)]
  · rw [wipe_out hj, wipe_out hj, h.2 j hj]
theorem wipe_wipe {σ : L2.St} {vs : List Nat} : wipe (wipe σ vs) vs = wipe σ vs := (wipe_off (σ := σ) (σ' := wipe σ vs) ⟨wipe_length _ _, fun j hj => wipe_out hj⟩)
theorem wipeR_get {j : Nat} : ∀ {ks : List Nat} {ρ : Rho}, (wipeR ks ρ)[j]? = if j ∈ ks ∧ j < ρ.length then some .no else ρ[j]?
  | [], ρ => by simp [wipeR]
  | k :: ks, ρ => by
    show (wipeR ks (ρ.set k .no))[j]? = _
    rw [wipeR_get, List.length_set]
    by_cases hl : j < ρ.length
    · by_cases h1 : j ∈ ks
      · rw [if_pos ⟨h1, hl⟩, if_pos ⟨List.mem_cons_of_mem _ h1, hl⟩]
      · rw [if_neg (fun z => h1 z.1)]
        by_cases h2 : k = j
        · subst h2
          rw [List.getElem?_set_self hl, if_pos ⟨List.mem_cons_self, hl⟩]
        · rw [List.getElem?_set_ne h2, if_neg (fun z => (List.mem_cons.mp z.1).elim (fun q => h2 q.symm) h1)]
    · rw [if_neg (fun z => hl z.2), if_neg (fun z => hl z.2)]
      rw [List.getElem?_eq_none (by rw [List.length_set]; omega), List.getElem?_eq_none (by omega)]
section
variable {K : PySem.W.Frag} {π : Nat → Addr} {c : Cfg} {F F' H H' : Hp} {σ : L2.St} {ρ ρ' : Rho}
/-- into the block: the names of the block are not seen -/
theorem Sta.into (S : Sta K π c F H σ ρ) (ks : List Nat) : Sta K π c F H (L2.wipe σ ks) (wipeR ks ρ) := by
  have S1 : Sta K π c F H σ (wipeR ks ρ) := S.wipe
  have hl : (wipeR ks ρ).length = ρ.length := by rw [← S1.len, S.len]
  have out : ∀ j, j ∉ ks → (L2.wipe σ ks)[j]? = σ[j]? := fun j hj => wipe_out hj
  have nin : ∀ j s, (wipeR ks ρ)[j]? = some s → s ≠ .no → j ∉ ks := fun j s e hs hj => by
    rw [wipeR_get] at e
    by_cases hlt : j < ρ.length
    · rw [if_pos ⟨hj, hlt⟩] at e
      cases e
      exact hs rfl
    · rw [if_neg (fun z => hlt z.2), List.getElem?_eq_none (by omega)] at e
      cases e
  refine ⟨S1.h0, S1.hio, S1.f0, S1.f, S1.nf, by rw [L2.wipe_length]; exact S1.len, fun j s hs => ?_, fun i j p h1 h2 => ?_⟩
  · have z := S1.rep j s hs
    cases s with
    | no => trivial
    | val d => obtain ⟨v, e, r⟩ := z; exact ⟨v, (out j (nin j _ hs (fun q => nomatch q))).trans e, r⟩
    | own m => obtain ⟨p, e, r⟩ := z; exact ⟨p, (out j (nin j _ hs (fun q => nomatch q))).trans e, r⟩
    | io m => obtain ⟨e, r⟩ := z; exact ⟨(out j (nin j _ hs (fun q => nomatch q))).trans e, r⟩
  · have key : ∀ j, OwnAt (L2.wipe σ ks) (wipeR ks ρ) j p → OwnAt σ (wipeR ks ρ) j p := fun j ⟨e, m, h⟩ => by
      have hj : j ∉ ks := by
        rcases h with h | h
        · exact nin j _ h (fun q => nomatch q)
        · exact nin j _ h (fun q => nomatch q)
      exact ⟨(out j hj).symm.trans e, m, h⟩
    exact S1.dis i j p (key i h1) (key j h2)
/-- out of the block -/
theorem Sta.outof {ks : List Nat} (S0 : Sta K π c F H σ ρ) (g : Same F F') : ∀ {ls : List Nat} {ρ1 ρ2 : Rho}, (∀ l ∈ ls, l ∈ ks) → (∀ j s, ρ1[j]? = some s → SlotOk K π c F' H' σ j s) → (∀ i j p, OwnAt σ ρ1 i p → OwnAt σ ρ1 j p → i = j) → ρ1.length = ρ.length → resR ls ρ ρ1 = some ρ2 →
    (∀ j s, ρ2[j]? = some s → SlotOk K π c F' H' σ j s) ∧ (∀ i j p, OwnAt σ ρ2 i p → OwnAt σ ρ2 j p → i = j) ∧ ρ2.length = ρ.length ∧ ∀ j p, OwnAt σ ρ2 j p → OwnAt σ ρ1 j p
  | [], ρ1, ρ2, _, h1, h2, h3, e => by
    cases e
    exact ⟨h1, h2, h3, fun _ _ h => h⟩
  | l :: ls, ρ1, ρ2, hs, h1, h2, h3, e => by
    have step : ∀ s : Slot, SlotOk K π c F' H' σ l s → isO s = false → isI s = false → resR ls ρ (ρ1.set l s) = some ρ2 → (∀ j s, ρ2[j]? = some s → SlotOk K π c F' H' σ j s) ∧ (∀ i j p, OwnAt σ ρ2 i p → OwnAt σ ρ2 j p → i = j) ∧ ρ2.length = ρ.length ∧ ∀ j p, OwnAt σ ρ2 j p → OwnAt σ ρ1 j p := fun s ok no ni e => by
      have key : ∀ j p, OwnAt σ (ρ1.set l s) j p → OwnAt σ ρ1 j p := fun j p ⟨q, m, h⟩ => by
        by_cases hj : l = j
        · subst hj
          by_cases hlt : l < ρ1.length
          · rw [List.getElem?_set_self hlt] at h
            rcases h with h | h
            · cases h; cases no
            · cases h; cases ni
          · rw [List.getElem?_eq_none (by rw [List.length_set]; omega)] at h
            rcases h with h | h <;> cases h
        · rw [List.getElem?_set_ne hj] at h
          exact ⟨q, m, h⟩
      have q1 : ∀ j s', (ρ1.set l s)[j]? = some s' → SlotOk K π c F' H' σ j s' := fun j s' e' => by
        by_cases hj : l = j
        · subst hj
          by_cases hlt : l < ρ1.length
          · rw [List.getElem?_set_self hlt] at e'
            cases e'
            exact ok
          · rw [List.getElem?_eq_none (by rw [List.length_set]; omega)] at e'
            cases e'
        · rw [List.getElem?_set_ne hj] at e'
          exact h1 j s' e'
      obtain ⟨a1, a2, a3, a4⟩ := Sta.outof S0 g (ls := ls) (ρ1 := ρ1.set l s) (fun l hl => hs l (List.mem_cons_of_mem _ hl)) q1 (fun i j p a b => h2 i j p (key i p a) (key j p b)) (by rw [List.length_set]; exact h3) e
      exact ⟨a1, a2, a3, fun j p h => key j p (a4 j p h)⟩
    unfold resR at e
    cases eq : ρ[l]? with
    | none =>
      rw [eq] at e
      exact Sta.outof S0 g (fun l hl => hs l (List.mem_cons_of_mem _ hl)) h1 h2 h3 e
    | some s =>
      rw [eq] at e
      cases s with
      | no => exact step .no trivial rfl rfl e
      | val d =>
        obtain ⟨v, e1, r⟩ := S0.rep l _ eq
        exact step (.val d) ⟨v, e1, r.mono g⟩ rfl rfl e
      | own m => cases e
      | io m => cases e
/-- a list that is no slot's changes -/
theorem Sta.other (S : Sta K π c F H σ ρ) {p : Addr} {o : HO} (n : F p = none) (n0 : c.H0 p = none) (nio : p ∉ c.io ∧ p ∉ c.ow) (nw : ∀ j, ¬ OwnAt σ ρ j p) : Sta K π c F (upd H p o) σ ρ := by
  refine ⟨fun q u e h1 h2 => ?_, fun q hq => ?_, S.f0, sm_updR S.f n, S.nf, S.len, fun j s hs => ?_, S.dis⟩
  · rw [upd_ne (fun z => by subst z; rw [n0] at e; cases e)]
    exact S.h0 q u e h1 h2
  · rw [upd_ne (fun z => by subst z; exact hq.elim nio.1 nio.2)]
    exact S.hio q hq
  · have z := S.rep j s hs
    cases s with
    | no => trivial
    | val d => exact z
    | own m =>
      obtain ⟨q, e1, e2, e3, r⟩ := z
      have nq : q ≠ p := fun w => by subst w; exact nw j ⟨e1, m, .inl hs⟩
      exact ⟨q, e1, e2, e3, r.mono (Same.refl _) fun u hu => by rw [upd_ne nq]; exact hu⟩
    | io m =>
      obtain ⟨e1, e2, e3, r⟩ := z
      have nq : π j ≠ p := fun w => by rw [w] at e1; exact nw j ⟨e1, m, .inr hs⟩
      exact ⟨e1, e2, e3, r.mono (Same.refl _) fun u hu => by rw [upd_ne nq]; exact hu⟩
theorem Sta.notOwn (S : Sta K π c F H σ ρ) {p : Addr} {o : HO} (hH : c.H0 p = some o) (hn : p ∉ c.io ∧ p ∉ c.ow) : ∀ j, ¬ OwnAt σ ρ j p := fun j h => by
  obtain ⟨_, z, _⟩ := S.ownAt h
  rcases z with z | z | z
  · rw [hH] at z; cases z
  · exact hn.2 z
  · exact hn.1 z
end

section
variable {X : Cx} {π : Nat → Addr} {W : WX}
theorem fm_lc {elt tg iter : Expr} {ifs : List Expr} {scope : Scope} {own : List (Str × Nat)} {pos : Pos} {it : IF} {g : GF} {t : TF} {f : EF} {ns : List Nat} (hc : X.calm = true) (hN : X.N.Nodup) (hi : PI X tg iter (tI X.K π W it)) (ok : BlkOk X.N X.env.scope scope own)
    (hg : ∀ (s : Shared) (H : Hp) (C : Addr) (cl : List (Str × Addr)) (fp : List Addr), PG (X.blk s H scope (compEnvC scope cl C X.env) fp) tg (tGt X.K π ns g))
    (ht : ∀ (s : Shared) (H : Hp) (C : Addr) (cl : List (Str × Addr)) (fp : List Addr), PTs (X.blk s H scope (compEnvC scope cl C X.env) fp) ifs (tT X.K π W0 t))
    (he : ∀ (s : Shared) (H : Hp) (C : Addr) (cl : List (Str × Addr)) (fp : List Addr), PE (X.blk s H scope (compEnvC scope cl C X.env) fp) elt (tE X.K π W0 f))
    (hns : ∀ j ∈ ns, j ∈ own.map (·.2)) (hs : ∀ x, foldedSetIterable iter X.env x = pure x := by intro _; rfl) : PE X (.ListComp elt [⟨tg, iter, ifs, 0⟩] scope pos) (tM X.K π W (cmpM (own.map (·.2)) it g t f)) := by
  refine PE.imp (pe_lc hc hN hi ok hg ht he (hs := hs)) fun σ H Q ⟨c, F, ρ, S, P⟩ => ?_
  generalize own.map (·.2) = vs at hns P ⊢
  refine po_bind S P fun J F1 H1 ρ1 ds s1 S1 wk P1 => ?_
  intro Dd hD
  obtain ⟨fD, hD0, nD⟩ := S1.fresh hD
  have hDio : Dd ∉ c.io ∧ Dd ∉ c.ow := by
    refine ⟨fun z => ?_, fun z => ?_⟩
    · obtain ⟨o, e⟩ := S1.hio Dd (.inl z)
      rw [hD] at e
      cases e
    · obtain ⟨o, e⟩ := S1.hio Dd (.inr z)
      rw [hD] at e
      cases e
  refine ⟨fun i m H' => i + m = ds.length ∧ ∃ F2 ρ2 accV accD, Same F1 F2 ∧ Sta X.K π c F2 H' (wipe σ vs) ρ2 ∧ H' Dd = some (.lst accV) ∧ Reps X.K F2 accV accD ∧ F2 Dd = none ∧ (∀ j, ¬ OwnAt (wipe σ vs) ρ2 j Dd) ∧
      Po X.K π W (relM X.K) c F2 σ Q ((cmpL vs g t f accD (ds.drop i) ρ2).bind fun m ρ => bindO (resR vs ρ1 ρ) fun ρ => .ok m ρ), ⟨ds.length, by omega, F1, wipeR vs ρ1, [], [], Same.refl _, ?_, upd_same, .nil, fD, ?_, P1⟩, ?_⟩
  · exact (S1.into vs).grow (Grw.newO S1.f hD)
  · intro j hj
    obtain ⟨_, _, o, e⟩ := (S1.into vs).ownAt hj
    rw [hD] at e
    cases e
  · rintro i m H2 ⟨him, F2, ρ2, accV, accD, s2, S2, hacc, racc, f2D, nw2, P2⟩
    cases m with
    | zero =>
      have hi : i = ds.length := by omega
      subst hi
      rw [List.drop_length] at P2
      refine .inl ⟨wk.stop H2 (s2.trans S2.f), ?_⟩
      have P2 : Po X.K π W (relM X.K) c F2 σ Q (bindO (resR vs ρ1 ρ2) fun ρ => .ok (.lst accD) ρ) := P2
      cases er : resR vs ρ1 ρ2 with
      | none => rw [er] at P2; exact P2.elim
      | some ρ3 =>
        rw [er] at P2
        have l12 : ρ2.length = ρ1.length := by
          have h1 := S2.len
          have h2 := S1.len
          rw [wipe_length] at h1
          omega
        have q1 : ∀ j s, ρ2[j]? = some s → SlotOk X.K π c F2 H2 σ j s := fun j s hj => by
          have z := S2.rep j s hj
          cases s with
          | no => trivial
          | val d => obtain ⟨v, e, r⟩ := z; exact ⟨v, (wipe_some e).1, r⟩
          | own m => obtain ⟨p, e, r⟩ := z; exact ⟨p, (wipe_some e).1, r⟩
          | io m => obtain ⟨e, r⟩ := z; exact ⟨(wipe_some e).1, r⟩
        have key : ∀ j p, OwnAt σ ρ2 j p → OwnAt (wipe σ vs) ρ2 j p := fun j p ⟨e, m, h⟩ => by
          refine ⟨?_, m, h⟩
          rcases h with h | h
          · obtain ⟨q, e1, _⟩ := S2.rep j _ h
            have := (wipe_some e1).1
            rw [e] at this
            cases this
            exact e1
          · obtain ⟨e1, _⟩ := S2.rep j _ h
            have := (wipe_some e1).1
            rw [e] at this
            cases this
            exact e1
        obtain ⟨a1, a2, a3, a4⟩ := S1.outof (ks := vs) (F' := F2) (H' := H2) s2 (ls := vs) (ρ1 := ρ2) (ρ2 := ρ3) (fun l hl => hl) q1 (fun i j p h1 h2 => S2.dis i j p (key i p h1) (key j p h2)) l12 er
        have S3 : Sta X.K π c F2 H2 σ ρ3 := ⟨S2.h0, S2.hio, S2.f0, S2.f, S2.nf, by rw [a3]; exact S1.len, a1, a2⟩
        exact P2 (.ref Dd) F2 H2 (Same.refl _) S3 ⟨Dd, rfl, f2D, hD0, fun j hj => nw2 j (key j Dd (a4 j Dd hj)), accV, hacc, racc⟩
    | succ m =>
      have hlt : i < ds.length := by omega
      obtain ⟨hgo, hy⟩ := wk.go F2 H2 s2 S2.f i ds[i] (by simp [hlt])
      rw [List.drop_eq_getElem_cons hlt] at P2
      refine .inr ⟨hgo, fun H' => ∃ F2 ρ2 accV accD, Same F1 F2 ∧ Sta X.K π c F2 H' (wipe σ vs) ρ2 ∧ H' Dd = some (.lst accV) ∧ Reps X.K F2 accV accD ∧ F2 Dd = none ∧ (∀ j, ¬ OwnAt (wipe σ vs) ρ2 j Dd) ∧
        Po X.K π W (relM X.K) c F2 σ Q ((cmpL vs g t f accD (ds.drop (i + 1)) ρ2).bind fun m ρ => bindO (resR vs ρ1 ρ) fun ρ => .ok m ρ), fun H' h => ⟨m, Nat.lt_succ_self m, by omega, h⟩, fun x H3 yl => ?_⟩
      obtain ⟨F3, gr, rx⟩ := hy x H3 yl
      have T2 := S2.self
      have hT : (cfg F2 H2 (wipe σ vs) ρ2).H0 Dd = some (.lst accV) := hacc
      have hTn : Dd ∉ (cfg F2 H2 (wipe σ vs) ρ2).io ∧ Dd ∉ (cfg F2 H2 (wipe σ vs) ρ2).ow := by
        refine ⟨fun z => ?_, fun z => ?_⟩
        · obtain ⟨j, s, e, h, k⟩ := mem_adrs.mp z
          cases s with
          | io m => exact nw2 j ⟨e, m, .inr h⟩
          | no => cases k
          | val _ => cases k
          | own _ => cases k
        · obtain ⟨j, s, e, h, k⟩ := mem_adrs.mp z
          cases s with
          | own m => exact nw2 j ⟨e, m, .inl h⟩
          | no => cases k
          | val _ => cases k
          | io _ => cases k
      refine ⟨cfg F2 H2 (wipe σ vs) ρ2, F3, ρ2, ds[i], T2.grow gr, rx, ?_⟩
      have P2 : Po X.K π W (relM X.K) c F2 σ Q ((bindO (g ds[i] ρ2) fun ρ => (noX (t ρ)).bind fun b ρ => if b = true then (noX (f ρ)).bind fun x ρ => if small (accD.length + 1) = true then cmpL vs g t f (accD ++ [x]) (ds.drop (i + 1)) (wipeR vs ρ) else .stuck
        else cmpL vs g t f accD (ds.drop (i + 1)) (wipeR vs ρ)).bind fun m ρ => bindO (resR vs ρ1 ρ) fun ρ => .ok m ρ) := P2
      cases eg : g ds[i] ρ2 with
      | none => rw [eg] at P2; exact P2
      | some ρ3 =>
        rw [eg] at P2
        intro σ4 F4 H4 s4 of4 T4
        have of5 : Off vs (wipe σ vs) σ4 := ⟨of4.1, fun j hj => of4.2 j fun z => hj (hns j z)⟩
        have w4 : wipe σ4 vs = wipe σ vs := (wipe_off of5).trans wipe_wipe
        refine ⟨w4, cfg F2 H2 (wipe σ vs) ρ2, F4, ρ3, T4, ?_⟩
        have s24 : Same F2 F4 := gr.f.trans s4
        have P4 := Po.mono s24 P2
        cases et : t ρ3 with
        | stuck => simp only [bindO, et, noX, R.stuck_bind] at P4; exact P4.elim
        | exc C fs ρ4 => simp only [bindO, et, noX, R.stuck_bind] at P4; exact P4.elim
        | ok b ρ4 =>
          simp only [bindO, et, noX, R.ok_bind] at P4
          intro b' F5 H5 s5 T5 rb
          cases rb
          -- the turn's end
          have fin : ∀ {F6 H6 ρ6 acV acD}, Same F5 F6 → Sta X.K π (cfg F2 H2 (wipe σ vs) ρ2) F6 H6 σ4 ρ6 → Reps X.K F6 acV acD → Sta X.K π c F6 (upd H6 Dd (.lst acV)) (wipe σ vs) (wipeR vs ρ6) ∧ F6 Dd = none ∧ (∀ j, ¬ OwnAt (wipe σ vs) (wipeR vs ρ6) j Dd) := fun {F6 H6 ρ6 acV acD} s6 T6 r6 => by
            have n6 : F6 Dd = none := T6.nf Dd _ hT f2D
            have B6 := (S2.back T6).into vs
            have B6T := T6.into vs
            rw [w4] at B6 B6T
            have nw6 : ∀ j, ¬ OwnAt (wipe σ vs) (wipeR vs ρ6) j Dd := B6T.notOwn hT hTn
            exact ⟨B6.other n6 hD0 hDio nw6, n6, nw6⟩
          cases b with
          | false =>
            rw [if_neg Bool.false_ne_true] at P4 ⊢
            have hd5 : H5 Dd = some (.lst accV) := T5.h0 Dd _ hT hTn.1 hTn.2
            obtain ⟨k1, k2, k3⟩ := fin (Same.refl _) T5 (racc.mono (s24.trans s5))
            have ee : upd H5 Dd (.lst accV) = H5 := by
              funext q
              by_cases z : q = Dd
              · subst z
                rw [upd_same, hd5]
              · rw [upd_ne z]
            rw [ee] at k1
            exact ⟨F5, _, accV, accD, s2.trans (s24.trans s5), k1, hd5, racc.mono (s24.trans s5), k2, k3, P4.mono s5⟩
          | true =>
            rw [if_pos rfl] at P4 ⊢
            refine ⟨cfg F2 H2 (wipe σ vs) ρ2, F5, ρ4, T5, ?_⟩
            cases ef : f ρ4 with
            | stuck => simp only [ef, noX, R.stuck_bind] at P4; exact P4.elim
            | exc C fs ρ5 => simp only [ef, noX, R.stuck_bind] at P4; exact P4.elim
            | ok d ρ5 =>
              simp only [ef, noX, R.ok_bind] at P4
              intro y F6 H6 s6 T6 ry
              split at P4
              · rename_i hz
                have hd6 : H6 Dd = some (.lst accV) := T6.h0 Dd _ hT hTn.1 hTn.2
                have s26 : Same F2 F6 := s24.trans (s5.trans s6)
                have rr := (racc.mono s26).snoc ry
                obtain ⟨k1, k2, k3⟩ := fin s6 T6 rr
                have hl := small_le hz
                exact ⟨accV, hd6, lt_line (by rw [Reps.length racc]; omega), F6, _, _, _, s2.trans s26, k1, upd_same, rr, k2, k3, P4.mono (s5.trans s6)⟩
              · exact P4.elim
end
end FL
/-! FL7: defs and their calls. -/
namespace FL
open PySem PySem.Spec PyProof.Rows L2

/-! ### what a def promises -/
structure RoomG (k : Nat) (A : Around) : Prop where
  r : Room k A
  g : A.guards = some []
theorem RoomG.mono {j k : Nat} {A : Around} (r : RoomG k A) (h : j ≤ k) : RoomG j A := ⟨r.r.mono h, r.g⟩
theorem RoomG.deeper {k : Nat} {A : Around} (r : RoomG (k + 1) A) (env : Env) : RoomG k (A.deeper env) := ⟨r.r.deeper env, r.g⟩
structure FnG (P : Program) (w : World) (K : PySem.W.Frag) (mg : Str → Option Value) (base : Heap) (k : Nat) (f : Addr) (fd : FuncData) (ps : List Str) (sp : Sp) : Prop where
  len : ∀ vs H Q E, sp vs H Q E → vs.length = ps.length
  run : ∀ (A : Around) (outer : List Env) (s : Shared) (H : Hp) (args : Args) (us : List Value) (vs : List V) (Q : VK) (E : XK), RoomG k A → Env0 P w K mg base A outer s H → BindsTo s fd args (ps.zip us) → Vals vs us → sp vs H Q E →
    codeAny (model P w) A (.call (.ref f) args) (CR (L2.CX P w) outer P w H s Q E) s
theorem FnG.mono {P : Program} {w : World} {K : PySem.W.Frag} {mg : Str → Option Value} {base : Heap} {j k : Nat} {f : Addr} {fd : FuncData} {ps : List Str} {sp : Sp} (F : FnG P w K mg base j f fd ps sp) (h : j ≤ k) : FnG P w K mg base k f fd ps sp :=
  ⟨F.len, fun A outer s H args us vs Q E hr => F.run A outer s H args us vs Q E (hr.mono h)⟩

inductive Arg where
  | val (d : D)
  | io (m : M)
inductive RG where
  | ok (r : Res) (outs : List M)
  | exc (C : Addr) (fs : List (Str × D)) (outs : List M)
  | stuck
inductive ArgsR (K : PySem.W.Frag) (F H : Hp) : List V → List Arg → Prop
  | nil : ArgsR K F H [] []
  | val {v : V} {d : D} {vs : List V} {as : List Arg} : Rep K F v d → ArgsR K F H vs as → ArgsR K F H (v :: vs) (.val d :: as)
  | io {p : Addr} {m : M} {vs : List V} {as : List Arg} : F p = none → MRep K F H p m → ArgsR K F H vs as → ArgsR K F H (.ref p :: vs) (.io m :: as)
def ioA : List V → List Arg → List Addr
  | v :: vs, .io _ :: as => (match v with | .ref p => [p] | _ => []) ++ ioA vs as
  | _ :: vs, .val _ :: as => ioA vs as
  | _, _ => []
theorem ioA_io {p : Addr} {m : M} {vs : List V} {as : List Arg} : ioA (.ref p :: vs) (.io m :: as) = p :: ioA vs as := rfl
theorem ioA_val {v : V} {d : D} {vs : List V} {as : List Arg} : ioA (v :: vs) (.val d :: as) = ioA vs as := rfl
structure PostG (K : PySem.W.Frag) (F H : Hp) (A : List Addr) (outs : List M) (F' H' : Hp) : Prop where
  f : Same F F'
  fh : Same F' H'
  keep : ∀ q o, H q = some o → q ∉ A → H' q = some o
  nf : ∀ q o, H q = some o → F q = none → F' q = none
  outs : Paired (fun p m => MRep K F' H' p m) A outs
def ResR (K : PySem.W.Frag) (H F' H' : Hp) (v : V) : Res → Prop
  | .v d => Rep K F' v d
  | .m m => ∃ p, v = .ref p ∧ H p = none ∧ F' p = none ∧ MRep K F' H' p m
def PoR (K : PySem.W.Frag) (F H : Hp) (A : List Addr) (Q : VK) (E : XK) : RG → Prop
  | .ok r outs => ∀ v F' H', PostG K F H A outs F' H' → ResR K H F' H' v r → Q v H'
  | .exc C fs outs => ∀ dd fsV F' H', PostG K F H A outs F' H' → H' dd = some (.xd fsV) → fsV.map (·.1) = fs.map (·.1) → Reps K F' (fsV.map (·.2)) (fs.map (·.2)) → E (.ref C) (some dd) H'
  | .stuck => False
def spG (K : PySem.W.Frag) (n : Nat) (G : List Arg → RG) : Sp := fun vs H Q E => ∃ F as, Same F H ∧ ArgsR K F H vs as ∧ vs.length = n ∧ (ioA vs as).Nodup ∧ PoR K F H (ioA vs as) Q E (G as)
theorem ArgsR.length {K : PySem.W.Frag} {F H : Hp} : ∀ {vs : List V} {as : List Arg}, ArgsR K F H vs as → vs.length = as.length
  | _, _, .nil => rfl
  | _, _, .val _ r => congrArg (· + 1) (ArgsR.length r)
  | _, _, .io _ _ r => congrArg (· + 1) (ArgsR.length r)

/-- where a def's body runs -/
abbrev cxF (P : Program) (w : World) (K : PySem.W.Frag) (mg : Str → Option Value) (base : Heap) (N : List Str) (qual : Str) (scope : Scope) (f : Addr) (cd : Value) (A : Around) (outer : List Env) (s : Shared) (H : Hp) (E : XK) : Cx := cxOf (L2.CX P w) P w K mg base N qual scope f cd A outer s H E
theorem RoomG.u64 {k : Nat} {A : Around} (r : RoomG k A) : A.units + 64 < cLine := by have := r.r.un; omega
theorem RoomG.u65 {k : Nat} {A : Around} (r : RoomG k A) : A.units + 65 < cLine := by have := r.r.un; omega
/-! ### a def's body -/
def toS : Arg → Slot
  | .val d => .val d
  | .io m => .io m
def collect : List Arg → Nat → Rho → Option (List M)
  | [], _, _ => some []
  | .val _ :: as, i, ρ => collect as (i + 1) ρ
  | .io _ :: as, i, ρ => match ρ[i]? with
    | some (.io m) => (collect as (i + 1) ρ).map (m :: ·)
    | _ => none
def endG (as : List Arg) (k : List M → RG) (ρ : Rho) : RG := match collect as 0 ρ with
  | some outs => k outs
  | none => .stuck
def rho0 (l : Nat) (as : List Arg) : Rho := as.map toS ++ List.replicate (l - as.length) .no
/-- the def by its body: l names -/
def bodyG (l : Nat) (g : SF) (as : List Arg) : RG := match g (rho0 l as) with
  | .ok .nx ρ => endG as (.ok (.v .non)) ρ
  | .ok (.rt r) ρ => endG as (.ok r) ρ
  | .exc C fs ρ => endG as (.exc C fs) ρ
  | _ => .stuck
def adrV : Option V → Addr
  | some (.ref p) => p
  | _ => 0
section
variable {K : PySem.W.Frag} {F H : Hp} {vs : List V} {as : List Arg}
theorem ArgsR.at : ∀ {vs : List V} {as : List Arg} {i : Nat} {a : Arg}, ArgsR K F H vs as → as[i]? = some a → ∃ v, vs[i]? = some v ∧ match a with
    | .val d => Rep K F v d
    | .io m => ∃ p, v = .ref p ∧ F p = none ∧ MRep K F H p m ∧ p ∈ ioA vs as
  | _, _, _, _, .nil, e => by simp at e
  | _, _, 0, _, .val h r, e => by
    simp at e
    subst e
    exact ⟨_, rfl, h⟩
  | _, _, 0, _, .io n h r, e => by
    simp at e
    subst e
    exact ⟨_, rfl, _, rfl, n, h, by simp [ioA]⟩
  | _, _, i + 1, a, .val h r, e => by
    obtain ⟨v, h1, h2⟩ := ArgsR.at (i := i) (a := a) r (by simpa using e)
    exact ⟨v, by simpa using h1, h2⟩
  | _, _, i + 1, a, .io n h r, e => by
    obtain ⟨v, h1, h2⟩ := ArgsR.at (i := i) (a := a) r (by simpa using e)
    refine ⟨v, by simpa using h1, ?_⟩
    cases a with
    | val d => exact h2
    | io m =>
      obtain ⟨p, e1, e2, e3, e4⟩ := h2
      exact ⟨p, e1, e2, e3, by simp [ioA, e4]⟩
theorem ArgsR.here : ∀ {vs : List V} {as : List Arg}, ArgsR K F H vs as → ∀ q ∈ ioA vs as, ∃ o, H q = some o
  | _, _, .nil, q, h => by simp [ioA] at h
  | _, _, .val _ r, q, h => ArgsR.here r q (by simpa [ioA] using h)
  | _, _, .io n m r, q, h => by
    rw [ioA_io] at h
    rcases List.mem_cons.mp h with h | h
    · rw [h]; exact m.here
    · exact ArgsR.here r q h
/-- two places of one thing -/
theorem ArgsR.uniq : ∀ {vs : List V} {as : List Arg} {i j : Nat} {p : Addr} {m m' : M}, ArgsR K F H vs as → (ioA vs as).Nodup → as[i]? = some (.io m) → as[j]? = some (.io m') → vs[i]? = some (.ref p) → vs[j]? = some (.ref p) → i = j
  | _, _, _, _, _, _, _, .nil, _, e, _, _, _ => by simp at e
  | _, _, 0, 0, _, _, _, _, _, _, _, _, _ => rfl
  | _, _, i + 1, j + 1, p, m, m', .val _ r, nd, e1, e2, e3, e4 => by
    rw [ArgsR.uniq (i := i) (j := j) (p := p) (m := m) (m' := m') r (by simpa [ioA] using nd) (by simpa using e1) (by simpa using e2) (by simpa using e3) (by simpa using e4)]
  | _, _, i + 1, j + 1, p, m, m', .io _ _ r, nd, e1, e2, e3, e4 => by
    rw [ioA_io] at nd
    have nd := List.nodup_cons.mp nd
    rw [ArgsR.uniq (i := i) (j := j) (p := p) (m := m) (m' := m') r nd.2 (by simpa using e1) (by simpa using e2) (by simpa using e3) (by simpa using e4)]
  | _, _, 0, j + 1, p, m, m', .val _ r, nd, e1, e2, e3, e4 => by simp at e1
  | _, _, i + 1, 0, p, m, m', .val _ r, nd, e1, e2, e3, e4 => by simp at e2
  | _, _, 0, j + 1, p, m, m', .io _ _ r, nd, e1, e2, e3, e4 => by
    rw [ioA_io] at nd
    have nd := List.nodup_cons.mp nd
    obtain ⟨v, h1, q, h2, _, _, h3⟩ := r.at (i := j) (a := .io m') (by simpa using e2)
    rw [List.getElem?_cons_succ, h1] at e4
    cases e4
    cases h2
    simp at e3
    subst e3
    exact absurd h3 nd.1
  | _, _, i + 1, 0, p, m, m', .io _ _ r, nd, e1, e2, e3, e4 => by
    rw [ioA_io] at nd
    have nd := List.nodup_cons.mp nd
    obtain ⟨v, h1, q, h2, _, _, h3⟩ := r.at (i := i) (a := .io m) (by simpa using e1)
    rw [List.getElem?_cons_succ, h1] at e3
    cases e3
    cases h2
    simp at e4
    subst e4
    exact absurd h3 nd.1
theorem start_get {N : List Str} {vs : List V} {i : Nat} {v : V} (h : vs[i]? = some v) : (L2.start N vs)[i]? = some (some v) := by
  unfold L2.start
  have hl : i < vs.length := (List.getElem?_eq_some_iff.mp h).1
  rw [List.getElem?_append_left (by simpa using hl), List.getElem?_map, h]
  rfl
theorem rho0_get {l i : Nat} {as : List Arg} {s : Slot} (h : (rho0 l as)[i]? = some s) : s = .no ∨ ∃ a, as[i]? = some a ∧ s = toS a := by
  unfold rho0 at h
  by_cases hl : i < as.length
  · rw [List.getElem?_append_left (by simpa using hl), List.getElem?_map] at h
    cases e : as[i]? with
    | none => rw [e] at h; cases h
    | some a =>
      rw [e] at h
      cases h
      exact .inr ⟨a, rfl, rfl⟩
  · rw [List.getElem?_append_right (by simpa using hl), List.getElem?_replicate] at h
    split at h
    · cases h
      exact .inl rfl
    · cases h
theorem Sta.start {N : List Str} (s : Same F H) (r : ArgsR K F H vs as) (nd : (ioA vs as).Nodup) (hl : vs.length ≤ N.length) :
    Sta K (fun i => adrV vs[i]?) ⟨H, F, ioA vs as, []⟩ F H (L2.start N vs) (rho0 N.length as) := by
  have hlen := r.length
  refine ⟨fun q o e _ _ => e, fun q hq => ?_, Same.refl _, s, fun q o _ n => n, ?_, fun i sl hs => ?_, fun i j p h1 h2 => ?_⟩
  · rcases hq with hq | hq
    · exact r.here q hq
    · cases hq
  · unfold L2.start rho0
    rw [List.length_append, List.length_append, List.length_map, List.length_map, List.length_replicate, List.length_replicate]
    omega
  · rcases rho0_get hs with rfl | ⟨a, ha, rfl⟩
    · trivial
    · obtain ⟨v, hv, z⟩ := r.at ha
      cases a with
      | val d => exact ⟨v, start_get hv, z⟩
      | io m =>
        obtain ⟨p, rfl, n, hm, hp⟩ := z
        have e : adrV vs[i]? = p := by rw [hv]; rfl
        refine ⟨?_, ?_, ?_, ?_⟩
        · show _ = some (some (V.ref (adrV vs[i]?)))
          rw [e]
          exact start_get hv
        · show F (adrV vs[i]?) = none
          rw [e]
          exact n
        · show adrV vs[i]? ∈ ioA vs as
          rw [e]
          exact hp
        · show MRep K F H (adrV vs[i]?) m
          rw [e]
          exact hm
  · have key : ∀ j, OwnAt (L2.start N vs) (rho0 N.length as) j p → ∃ m, as[j]? = some (.io m) ∧ vs[j]? = some (.ref p) := fun j ⟨e, m, h⟩ => by
      have z : ∃ m, as[j]? = some (.io m) := by
        rcases h with h | h
        · rcases rho0_get h with h | ⟨a, _, h⟩
          · cases h
          · cases a <;> cases h
        · rcases rho0_get h with h | ⟨a, ha, h⟩
          · cases h
          · cases a with
            | val d => cases h
            | io m' => exact ⟨m', ha⟩
      obtain ⟨m', ha⟩ := z
      obtain ⟨v, hv, _⟩ := r.at ha
      have := start_get (N := N) hv
      rw [e] at this
      cases this
      exact ⟨m', ha, hv⟩
    obtain ⟨m1, a1, b1⟩ := key i h1
    obtain ⟨m2, a2, b2⟩ := key j h2
    exact r.uniq nd a1 a2 b1 b2
/-- what the handed things hold at the end -/
theorem collect_ok {F' H' : Hp} {σ : L2.St} {c : Cfg} {π : Nat → Addr} {ρ : Rho} (S : Sta K π c F' H' σ ρ) : ∀ {vs : List V} {as : List Arg} {i : Nat} {outs : List M}, ArgsR K F H vs as → (∀ j v, vs[j]? = some v → π (i + j) = adrV (some v)) → collect as i ρ = some outs → Paired (fun p m => MRep K F' H' p m) (ioA vs as) outs
  | _, _, _, _, .nil, _, e => by
    cases e
    exact .nil
  | _, _, i, outs, .val _ r, h, e => by
    have := collect_ok S (i := i + 1) r (fun j v hv => by rw [← h (j + 1) v (by simpa using hv)]; congr 1; omega) (by simpa [collect] using e)
    simpa [ioA] using this
  | _, _, i, outs, .io (p := p) n m r, h, e => by
    unfold collect at e
    split at e
    · rename_i m1 e1
      cases e2 : collect _ (i + 1) ρ with
      | none => rw [e2] at e; cases e
      | some l =>
        rw [e2] at e
        cases e
        have := collect_ok S (i := i + 1) r (fun j v hv => by rw [← h (j + 1) v (by simpa using hv)]; congr 1; omega) e2
        obtain ⟨_, _, _, q⟩ := S.rep i _ e1
        have hp : π i = p := by
          have z := h 0 (.ref p) (by simp)
          simpa [adrV] using z
        rw [hp] at q
        have z : Paired (fun p m => MRep K F' H' p m) (p :: ioA _ _) (m1 :: l) := .cons q this
        simpa [ioA] using z
    · cases e
end
section
variable {P : Program} {w : World} {K : PySem.W.Frag} {mg : Str → Option Value} {base : Heap}
/-- from a body: what follows it in the def's caller -/
theorem body_end {N : List Str} {F H : Hp} {vs : List V} {as : List Arg} {Q : VK} {E : XK} {g : SF} (s : Same F H) (r : ArgsR K F H vs as) (nd : (ioA vs as).Nodup) (hl : vs.length ≤ N.length) (h : PoR K F H (ioA vs as) Q E (bodyG N.length g as)) :
    tS K (fun i => adrV vs[i]?) (fun cls d _ H => E cls d H) g { nx := fun _ H' => Q .non H', rt := Q } (L2.start N vs) H := by
  refine ⟨⟨H, F, ioA vs as, []⟩, F, rho0 N.length as, rfl, Sta.start s r nd hl, ?_⟩
  unfold bodyG at h
  have post : ∀ {σ' : L2.St} {F' H' : Hp} {ρ' : Rho} {outs : List M}, Sta K (fun i => adrV vs[i]?) ⟨H, F, ioA vs as, []⟩ F' H' σ' ρ' → collect as 0 ρ' = some outs → PostG K F H (ioA vs as) outs F' H' := fun {σ' F' H' ρ' outs} S e =>
    ⟨S.f0, S.f, fun q o eq n => S.h0 q o eq n (fun z => by cases z), fun q o eq n => S.nf q o eq n, collect_ok S r (fun j v hv => by simp [hv]) e⟩
  cases eg : g (rho0 N.length as) with
  | stuck => rw [eg] at h; exact h
  | exc C fs ρ' =>
    rw [eg] at h
    have h : PoR K F H (ioA vs as) Q E (endG as (.exc C fs) ρ') := h
    unfold endG at h
    cases ec : collect as 0 ρ' with
    | none => rw [ec] at h; exact h.elim
    | some outs =>
      rw [ec] at h
      exact fun dd fsV σ' F' H' s' S' => h dd fsV F' H' (post S' ec)
  | ok fl ρ' =>
    rw [eg] at h
    cases fl with
    | bk => exact h.elim
    | ct => exact h.elim
    | nx =>
      have h : PoR K F H (ioA vs as) Q E (endG as (.ok (.v .non)) ρ') := h
      unfold endG at h
      cases ec : collect as 0 ρ' with
      | none => rw [ec] at h; exact h.elim
      | some outs =>
        rw [ec] at h
        exact fun σ' F' H' s' S' => h .non F' H' (post S' ec) .non
    | rt rr =>
      have h : PoR K F H (ioA vs as) Q E (endG as (.ok rr) ρ') := h
      unfold endG at h
      cases ec : collect as 0 ρ' with
      | none => rw [ec] at h; exact h.elim
      | some outs =>
        rw [ec] at h
        refine fun v σ' F' H' s' S' rv => h v F' H' (post S' ec) ?_
        cases rr with
        | v d => exact rv
        | m m =>
          obtain ⟨p, e, n, n0, _, hm⟩ := rv
          exact ⟨p, e, n0, n, hm⟩
/-- THE RULE for a def -/
theorem fnG {x qual : Str} {st : Stmt} {f : Addr} {fd : FuncData} {N ps : List Str} {k : Nat} {g : SF} (Fd : Fun K x qual st f fd) (Sc : FnScope N ps (defScope st))
    (hbody : ∀ (cdv : Value) (A : Around) (outer : List Env) (s : Shared) (H : Hp) (E : XK) (π : Nat → Addr) (W : WX), RoomG k (cxF P w K mg base N qual (defScope st) f cdv A outer s H E).A → Takes (cxF P w K mg base N qual (defScope st) f cdv A outer s H E) W →
      PassesOwn (model P w) (cxF P w K mg base N qual (defScope st) f cdv A outer s H E).A (cxF P w K mg base N qual (defScope st) f cdv A outer s H E).env (cxF P w K mg base N qual (defScope st) f cdv A outer s H E).xe →
      PSs (cxF P w K mg base N qual (defScope st) f cdv A outer s H E) (defBody st) (tS K π W g)) : FnG P w K mg base (k + 1) f fd ps (spG K ps.length (bodyG N.length g)) := by
  obtain ⟨oc, od, kV, doc, pm, an, cdv, ct, osl, rfl, lk, hcd⟩ := Fd.ex
  refine ⟨fun vs H Q E ⟨_, _, _, _, h, _⟩ => h, fun A outer s H args us vs Q E hr e0 hb r hsp => ?_⟩
  obtain ⟨F, as, sm, ra, hl, nd, hP⟩ := hsp
  have KX : K.In s.heap := e0.mod.kin.keeps fun b o e => (e0.bs b o e).1
  have lim : s.heap.NoLimit := e0.mod.nolimit.keeps fun b o e => (e0.bs b o e).1
  have hps : ps.length ≤ N.length := by
    have := congrArg List.length Sc.pre
    rw [List.length_take] at this
    omega
  refine codeAny_call_function hr.r.depth (KX _ _ lk) rfl Sc.co Sc.gen rfl (PySem.W.codeRec_of KX hcd) (hb _ _ _ _ ?_)
  refine wpAny_newFunctionEnv_cells Sc.kind (fun ⟨n, v⟩ hy => ?_) fun env he s1 x => ?_
  · rcases Sc.par n (List.of_mem_zip hy).1 with q | q
    · exact .inl q
    · exact .inr ⟨q, PySem.W.cellsFrom_some _ _ _ (.inl q)⟩
  · subst he
    refine ⟨lim.keeps x.toInCall.keep, codeAny_func ?_⟩
    have hx := hbody cdv A outer s H E (fun i => adrV vs[i]?) (fun cls d _ H => E cls d H) (hr.deeper _) (takes_of rfl rfl rfl rfl) (passes_of rfl)
    have I : Inv (cxOf (L2.CX P w) P w K mg base N qual (defScope st) f cdv A outer s H E) [] (L2.start N vs) H s1 := inv_start Sc hr.r.hd e0 hl r x
    have run := hx.run [] s1 (L2.start N vs) H { nx := fun _ H' => Q .non H', rt := Q } I (body_end sm ra nd (by omega) hP)
    refine wpAny_mono run (fun fl s' hs => ?_) fun e s' hs => hs
    cases fl with
    | ret u =>
      obtain ⟨v, σ', H', J, rv, q⟩ := hs
      exact ⟨v, H', J.os, J.bare, J.base, J.hok, rv, q⟩
    | next =>
      obtain ⟨σ', H', J, q⟩ := hs
      exact ⟨V.non, H', J.os, J.bare, J.base, J.hok, rfl, q⟩
    | brk =>
      obtain ⟨_, _, _, q⟩ := hs
      exact q.elim
    | cont =>
      obtain ⟨_, _, _, q⟩ := hs
      exact q.elim
end
end FL
/-! FL8: calls of defs. -/
namespace FL
open PySem PySem.Spec PyProof.Rows L2

/-! ### arguments -/
inductive AA where
  | val (d : D)
  | sl (i : Nat)
inductive AAs (K : PySem.W.Frag) (F : Hp) (σ : L2.St) : List V → List AA → Prop
  | nil : AAs K F σ [] []
  | val {v : V} {d : D} {vs : List V} {as : List AA} : Rep K F v d → AAs K F σ vs as → AAs K F σ (v :: vs) (.val d :: as)
  | sl {v : V} {i : Nat} {vs : List V} {as : List AA} : σ[i]? = some (some v) → AAs K F σ vs as → AAs K F σ (v :: vs) (.sl i :: as)
def relB (K : PySem.W.Frag) : Rel (List V) (List AA) := fun _ F _ σ _ vs as => AAs K F σ vs as
abbrev BF := Rho → R (List AA)
section
variable {K : PySem.W.Frag} {F F' H H' : Hp} {σ : L2.St} {vs : List V} {as : List AA}
theorem AAs.mono (e : Same F F') : ∀ {vs : List V} {as : List AA}, AAs K F σ vs as → AAs K F' σ vs as
  | _, _, .nil => .nil
  | _, _, .val h r => .val (h.mono e) (AAs.mono e r)
  | _, _, .sl h r => .sl h (AAs.mono e r)
theorem AAs.length : ∀ {vs : List V} {as : List AA}, AAs K F σ vs as → vs.length = as.length
  | _, _, .nil => rfl
  | _, _, .val _ r => congrArg (· + 1) (AAs.length r)
  | _, _, .sl _ r => congrArg (· + 1) (AAs.length r)
theorem AAs.append : ∀ {vs ws : List V} {as bs : List AA}, AAs K F σ vs as → AAs K F σ ws bs → AAs K F σ (vs ++ ws) (as ++ bs)
  | _, _, _, _, .nil, r => r
  | _, _, _, _, .val h q, r => .val h (AAs.append q r)
  | _, _, _, _, .sl h q, r => .sl h (AAs.append q r)
theorem AAs.get : ∀ {vs : List V} {as : List AA} (i : Nat), AAs K F σ vs as → (∃ v a, vs[i]? = some v ∧ as[i]? = some a ∧ AAs K F σ [v] [a]) ∨ (vs[i]? = none ∧ as[i]? = none)
  | _, _, _, .nil => .inr ⟨by simp, by simp⟩
  | _, _, 0, .val h _ => .inl ⟨_, _, rfl, rfl, .val h .nil⟩
  | _, _, 0, .sl h _ => .inl ⟨_, _, rfl, rfl, .sl h .nil⟩
  | _, _, i + 1, .val _ r => by simpa using AAs.get i r
  | _, _, i + 1, .sl _ r => by simpa using AAs.get i r
def pick {α : Type} (ord : List Nat) (l : List α) : List α := ord.filterMap fun i => l[i]?
theorem AAs.pick (r : AAs K F σ vs as) : ∀ ord : List Nat, AAs K F σ (FL.pick ord vs) (FL.pick ord as)
  | [] => .nil
  | i :: ord => by
    have z := AAs.pick r ord
    unfold FL.pick at z ⊢
    rcases r.get i with ⟨v, a, e1, e2, h⟩ | ⟨e1, e2⟩
    · rw [List.filterMap_cons, List.filterMap_cons, e1, e2]
      exact h.append z
    · rw [List.filterMap_cons, List.filterMap_cons, e1, e2]
      exact z
theorem vals_get : ∀ {vs : List V} {us : List Value} (i : Nat), Vals vs us → (∃ v u, vs[i]? = some v ∧ us[i]? = some u ∧ Vals [v] [u]) ∨ (vs[i]? = none ∧ us[i]? = none)
  | _, _, _, .nil => .inr ⟨by simp, by simp⟩
  | _, _, 0, .cons h _ => .inl ⟨_, _, rfl, rfl, .cons h .nil⟩
  | _, _, i + 1, .cons _ r => by simpa using vals_get i r
theorem vals_pick {vs : List V} {us : List Value} (r : Vals vs us) : ∀ ord : List Nat, Vals (pick ord vs) (pick ord us)
  | [] => .nil
  | i :: ord => by
    have z := vals_pick r ord
    unfold pick at z ⊢
    rcases vals_get i r with ⟨v, a, e1, e2, h⟩ | ⟨e1, e2⟩
    · rw [List.filterMap_cons, List.filterMap_cons, e1, e2]
      exact h.append z
    · rw [List.filterMap_cons, List.filterMap_cons, e1, e2]
      exact z
end
def ioM (ρ : Rho) (i : Nat) : Option M := match ρ[i]? with
  | some (.own m) => some m
  | some (.io m) => some m
  | _ => none
def toArgs (ρ : Rho) : List AA → Option (List Arg)
  | [] => some []
  | .val d :: as => (toArgs ρ as).map (.val d :: ·)
  | .sl i :: as => (ioM ρ i).bind fun m => (toArgs ρ as).map (.io m :: ·)
def slsA : List AA → List Nat
  | [] => []
  | .val _ :: as => slsA as
  | .sl i :: as => i :: slsA as
def newM : List AA → List M → Nat → Option M
  | .sl j :: as, m :: ms, i => if i = j then some m else newM as ms i
  | .val _ :: as, ms, i => newM as ms i
  | _, _, _ => none
def putM (m : M) : Slot → Slot
  | .own _ => .own m
  | .io _ => .io m
  | s => s
def putA (as : List AA) (outs : List M) (ρ : Rho) : Rho := ρ.mapIdx fun i s => match newM as outs i with
  | some m => putM m s
  | none => s
def nodN : List Nat → Bool
  | [] => true
  | a :: l => !(l.contains a) && nodN l
theorem nodN_of : ∀ {l : List Nat}, nodN l = true → l.Nodup
  | [], _ => List.nodup_nil
  | a :: l, h => by
    unfold nodN at h
    rw [Bool.and_eq_true] at h
    refine List.nodup_cons.mpr ⟨fun z => ?_, nodN_of h.2⟩
    have := h.1
    rw [List.contains_iff_mem.mpr z] at this
    cases this
section
variable {K : PySem.W.Frag} {π : Nat → Addr} {c : Cfg} {F F' H H' : Hp} {σ : L2.St} {ρ : Rho} {vs : List V} {as : List AA} {gs : List Arg} {outs : List M}
theorem Sta.ioM (S : Sta K π c F H σ ρ) {i : Nat} {m : M} (h : FL.ioM ρ i = some m) : ∃ p, σ[i]? = some (some (.ref p)) ∧ F p = none ∧ MRep K F H p m ∧ OwnAt σ ρ i p := by
  unfold FL.ioM at h
  split at h
  · rename_i m' e
    cases h
    obtain ⟨p, e1, e2, _, e4⟩ := S.rep i _ e
    exact ⟨p, e1, e2, e4, e1, m, .inl e⟩
  · rename_i m' e
    cases h
    obtain ⟨e1, e2, _, e4⟩ := S.rep i _ e
    exact ⟨π i, e1, e2, e4, e1, m, .inr e⟩
  · cases h
theorem AAs.args (S : Sta K π c F H σ ρ) : ∀ {vs : List V} {as : List AA} {gs : List Arg}, AAs K F σ vs as → toArgs ρ as = some gs → ArgsR K F H vs gs
  | _, _, _, .nil, e => by
    cases e
    exact .nil
  | _, _, gs, .val (as := as) h r, e => by
    unfold toArgs at e
    cases e1 : toArgs ρ as with
    | none => rw [e1] at e; cases e
    | some l =>
      rw [e1] at e
      cases e
      exact .val h (AAs.args S r e1)
  | _, _, gs, .sl (i := i) (as := as) h r, e => by
    unfold toArgs at e
    cases e0 : FL.ioM ρ i with
    | none => rw [e0] at e; cases e
    | some m =>
      rw [e0] at e
      cases e1 : toArgs ρ as with
      | none => rw [e1] at e; cases e
      | some l =>
        rw [e1] at e
        cases e
        obtain ⟨p, a1, a2, a3, a4⟩ := S.ioM e0
        rw [h] at a1
        cases a1
        exact .io a2 a3 (AAs.args S r e1)
theorem AAs.own (S : Sta K π c F H σ ρ) {q : Addr} : ∀ {vs : List V} {as : List AA} {gs : List Arg}, AAs K F σ vs as → toArgs ρ as = some gs → q ∈ ioA vs gs → ∃ i ∈ slsA as, OwnAt σ ρ i q
  | _, _, _, .nil, e, h => by
    cases e
    simp [ioA] at h
  | _, _, gs, .val (as := as) h r, e, hq => by
    unfold toArgs at e
    cases e1 : toArgs ρ as with
    | none => rw [e1] at e; cases e
    | some l =>
      rw [e1] at e
      cases e
      obtain ⟨i, hi, o⟩ := AAs.own S r e1 (by simpa [ioA] using hq)
      exact ⟨i, by simpa [slsA] using hi, o⟩
  | _, _, gs, .sl (i := i) (as := as) h r, e, hq => by
    unfold toArgs at e
    cases e0 : FL.ioM ρ i with
    | none => rw [e0] at e; cases e
    | some m =>
      rw [e0] at e
      cases e1 : toArgs ρ as with
      | none => rw [e1] at e; cases e
      | some l =>
        rw [e1] at e
        cases e
        obtain ⟨p, a1, a2, a3, a4⟩ := S.ioM e0
        rw [h] at a1
        cases a1
        rw [ioA_io] at hq
        rcases List.mem_cons.mp hq with z | z
        · subst z
          exact ⟨i, by simp [slsA], a4⟩
        · obtain ⟨j, hj, o⟩ := AAs.own S r e1 z
          exact ⟨j, by simp [slsA, hj], o⟩
theorem AAs.nod (S : Sta K π c F H σ ρ) : ∀ {vs : List V} {as : List AA} {gs : List Arg}, AAs K F σ vs as → toArgs ρ as = some gs → (slsA as).Nodup → (ioA vs gs).Nodup
  | _, _, _, .nil, e, _ => by
    cases e
    exact List.nodup_nil
  | _, _, gs, .val (as := as) h r, e, nd => by
    unfold toArgs at e
    cases e1 : toArgs ρ as with
    | none => rw [e1] at e; cases e
    | some l =>
      rw [e1] at e
      cases e
      simpa [ioA] using AAs.nod S r e1 (by simpa [slsA] using nd)
  | _, _, gs, .sl (i := i) (as := as) h r, e, nd => by
    unfold toArgs at e
    cases e0 : FL.ioM ρ i with
    | none => rw [e0] at e; cases e
    | some m =>
      rw [e0] at e
      cases e1 : toArgs ρ as with
      | none => rw [e1] at e; cases e
      | some l =>
        rw [e1] at e
        cases e
        obtain ⟨p, a1, a2, a3, a4⟩ := S.ioM e0
        rw [h] at a1
        cases a1
        have nd := List.nodup_cons.mp (show (i :: slsA as).Nodup from nd)
        rw [ioA_io]
        refine List.nodup_cons.mpr ⟨fun z => ?_, AAs.nod S r e1 nd.2⟩
        obtain ⟨j, hj, o⟩ := AAs.own S r e1 z
        have := S.dis i j _ a4 o
        subst this
        exact nd.1 hj
theorem AAs.new (S : Sta K π c F H σ ρ) {rr : Addr → M → Prop} {i : Nat} {q : Addr} (ow : OwnAt σ ρ i q) : ∀ {vs : List V} {as : List AA} {gs : List Arg} {outs : List M}, AAs K F σ vs as → toArgs ρ as = some gs → Paired rr (ioA vs gs) outs →
    (∃ m, newM as outs i = some m ∧ rr q m) ∨ (newM as outs i = none ∧ q ∉ ioA vs gs)
  | _, _, _, _, .nil, e, pr => by
    cases e
    exact .inr ⟨rfl, by simp [ioA]⟩
  | _, _, gs, outs, .val (as := as) h r, e, pr => by
    unfold toArgs at e
    cases e1 : toArgs ρ as with
    | none => rw [e1] at e; cases e
    | some l =>
      rw [e1] at e
      cases e
      have z := AAs.new S ow r e1 (rr := rr) (outs := outs) (by simpa [ioA] using pr)
      simpa [newM, ioA] using z
  | _, _, gs, outs, .sl (i := j) (as := as) h r, e, pr => by
    unfold toArgs at e
    cases e0 : FL.ioM ρ j with
    | none => rw [e0] at e; cases e
    | some m =>
      rw [e0] at e
      cases e1 : toArgs ρ as with
      | none => rw [e1] at e; cases e
      | some l =>
        rw [e1] at e
        cases e
        obtain ⟨p, a1, a2, a3, a4⟩ := S.ioM e0
        rw [h] at a1
        cases a1
        rw [ioA_io] at pr ⊢
        cases pr with
        | @cons _ m1 _ ms h1 h2 =>
          by_cases z : i = j
          · subst z
            have : q = p := by
              have := ow.1
              rw [h] at this
              cases this
              rfl
            subst this
            exact .inl ⟨m1, by show (if i = i then _ else _) = _; rw [if_pos rfl], h1⟩
          · have e3 : newM (.sl j :: as) (m1 :: ms) i = newM as ms i := by show (if i = j then _ else _) = _; rw [if_neg z]
            rw [e3]
            rcases AAs.new S ow r e1 h2 with ⟨m2, y1, y2⟩ | ⟨y1, y2⟩
            · exact .inl ⟨m2, y1, y2⟩
            · refine .inr ⟨y1, fun w => ?_⟩
              rcases List.mem_cons.mp w with w | w
              · subst w
                exact z (S.dis i j _ ow a4)
              · exact y2 w
theorem paired_mem {α β : Type} {r : α → β → Prop} : ∀ {xs : List α} {ys : List β} {x : α}, Paired r xs ys → x ∈ xs → ∃ y, r x y
  | _, _, _, .nil, h => by cases h
  | _, _, _, .cons h t, m => by
    rcases List.mem_cons.mp m with e | m
    · subst e
      exact ⟨_, h⟩
    · exact paired_mem t m
/-- behind a call -/
theorem Sta.post (S : Sta K π c F H σ ρ) (r : AAs K F σ vs as) (e : toArgs ρ as = some gs) (P : PostG K F H (ioA vs gs) outs F' H') : Sta K π c F' H' σ (putA as outs ρ) := by
  have own : ∀ {q}, q ∈ ioA vs gs → ∃ i, OwnAt σ ρ i q := fun hq => by
    obtain ⟨i, _, o⟩ := r.own S e hq
    exact ⟨i, o⟩
  have lk : ∀ {i s}, (putA as outs ρ)[i]? = some s → ∃ s0, ρ[i]? = some s0 ∧ s = (match newM as outs i with | some m => putM m s0 | none => s0) := fun {i s} h => by
    unfold putA at h
    rw [List.getElem?_mapIdx] at h
    cases e : ρ[i]? with
    | none => rw [e] at h; cases h
    | some s0 =>
      rw [e] at h
      cases h
      exact ⟨s0, rfl, rfl⟩
  refine ⟨fun q o eq n1 n2 => ?_, fun q hq => ?_, S.f0.trans P.f, P.fh, fun q o e1 e2 => ?_, by unfold putA; rw [List.length_mapIdx]; exact S.len, fun i s hs => ?_, fun i j p h1 h2 => ?_⟩
  · refine P.keep q o (S.h0 q o eq n1 n2) fun z => ?_
    obtain ⟨i, o'⟩ := own z
    rcases (S.ownAt o').2.1 with y | y | y
    · rw [eq] at y; cases y
    · exact n2 y
    · exact n1 y
  · obtain ⟨o, ho⟩ := S.hio q hq
    by_cases z : q ∈ ioA vs gs
    · obtain ⟨m, hm⟩ := paired_mem P.outs z
      exact hm.here
    · exact ⟨o, P.keep q o ho z⟩
  · obtain ⟨o', e'⟩ := S.any e1
    exact P.nf q o' e' (S.nf q o e1 e2)
  · obtain ⟨s0, h0, rfl⟩ := lk hs
    have z := S.rep i s0 h0
    cases s0 with
    | no =>
      cases newM as outs i <;> trivial
    | val d =>
      obtain ⟨v, e1, r1⟩ := z
      cases newM as outs i with
      | none => exact ⟨v, e1, r1.mono P.f⟩
      | some m => exact ⟨v, e1, r1.mono P.f⟩
    | own m0 =>
      obtain ⟨p, e1, e2, e3, e4⟩ := z
      obtain ⟨o, ho⟩ := e4.here
      rcases r.new S (i := i) (q := p) ⟨e1, m0, .inl h0⟩ e P.outs with ⟨m, y1, y2⟩ | ⟨y1, y2⟩
      · rw [y1]
        exact ⟨p, e1, P.nf p o ho e2, e3, y2⟩
      · rw [y1]
        exact ⟨p, e1, P.nf p o ho e2, e3, e4.mono P.f fun o' ho' => P.keep p o' ho' y2⟩
    | io m0 =>
      obtain ⟨e1, e2, e3, e4⟩ := z
      obtain ⟨o, ho⟩ := e4.here
      rcases r.new S (i := i) (q := π i) ⟨e1, m0, .inr h0⟩ e P.outs with ⟨m, y1, y2⟩ | ⟨y1, y2⟩
      · rw [y1]
        exact ⟨e1, P.nf _ o ho e2, e3, y2⟩
      · rw [y1]
        exact ⟨e1, P.nf _ o ho e2, e3, e4.mono P.f fun o' ho' => P.keep _ o' ho' y2⟩
  · have key : ∀ j, OwnAt σ (putA as outs ρ) j p → OwnAt σ ρ j p := fun j h => by
      obtain ⟨e, m, h⟩ := h
      rcases h with h | h
      · obtain ⟨s0, h0, e0⟩ := lk h
        cases s0 with
        | own m0 => exact ⟨e, m0, .inl h0⟩
        | io m0 => exact ⟨e, m0, .inr h0⟩
        | no => cases hn : newM as outs j <;> rw [hn] at e0 <;> cases e0
        | val d => cases hn : newM as outs j <;> rw [hn] at e0 <;> cases e0
      · obtain ⟨s0, h0, e0⟩ := lk h
        cases s0 with
        | own m0 => exact ⟨e, m0, .inl h0⟩
        | io m0 => exact ⟨e, m0, .inr h0⟩
        | no => cases hn : newM as outs j <;> rw [hn] at e0 <;> cases e0
        | val d => cases hn : newM as outs j <;> rw [hn] at e0 <;> cases e0
    exact S.dis i j p (key i h1) (key j h2)
end

/-! ### the reading of a call -/
def okA (n : Nat) (as : List AA) : Bool := as.length == n && nodN (slsA as)
def callG {α : Type} (n : Nat) (G : List Arg → RG) (f : BF) (k : Res → Rho → R α) : Rho → R α := fun ρ => (f ρ).bind fun as ρ => if okA n as = true then match toArgs ρ as with
    | some gs => match G gs with
      | .ok r outs => k r (putA as outs ρ)
      | .exc C fs outs => .exc C fs (putA as outs ρ)
      | .stuck => .stuck
    | none => .stuck
  else .stuck
def asE : Res → Rho → R D
  | .v d, ρ => .ok d ρ
  | .m (.lst ds), ρ => .ok (.lst ds) ρ
  | .m (.ins _ _), _ => .stuck
def asM : Res → Rho → R M
  | .m m, ρ => .ok m ρ
  | .v _, _ => .stuck
abbrev callE (n : Nat) (G : List Arg → RG) (f : BF) : EF := callG n G f asE
abbrev callM (n : Nat) (G : List Arg → RG) (f : BF) : Rho → R M := callG n G f asM
section
variable {X : Cx} {π : Nat → Addr} {W : WX} {e : Expr} {es : List Expr} {pos p : Pos} {k : Nat} {f : Addr} {fd : FuncData} {ps ks : List Str} {G : List Arg → RG} {x : Str} {kws : List Keyword} {nm : Option Str} {kpos : Pos}
abbrev tB (K : PySem.W.Frag) (π : Nat → Addr) (W : WX) (f : BF) : TA := tG K π W (relB K) f
def nilB : BF := fun ρ => .ok [] ρ
def cnsB (f : EF) (g : BF) : BF := fun ρ => (f ρ).bind fun x ρ => (g ρ).bind fun xs ρ => .ok (.val x :: xs) ρ
def slB (i : Nat) (g : BF) : BF := fun ρ => match ioM ρ i with
  | some _ => (g ρ).bind fun xs ρ => .ok (.sl i :: xs) ρ
  | none => .stuck
theorem rd_nilB {K : PySem.W.Frag} {σ : L2.St} {H : Hp} {Q : List V → Hp → Prop} : tB K π W nilB σ H Q → tNil σ H Q := fun ⟨c, F, ρ, S, P⟩ => P [] F H (Same.refl _) S .nil
theorem rd_cnsB {K : PySem.W.Frag} {σ : L2.St} {H : Hp} {Q : List V → Hp → Prop} {f : EF} {g : BF} : tB K π W (cnsB f g) σ H Q → tCons (tE K π W f) (tB K π W g) σ H Q := fun ⟨c, F, ρ, S, P⟩ => by
  refine po_bind S P fun x F1 H1 ρ1 dx s1 S1 r1 P1 => ?_
  refine po_bind S1 P1 fun xs F2 H2 ρ2 ds s2 S2 r2 P2 => ?_
  exact P2 (x :: xs) F2 H2 (Same.refl _) S2 (.val (Rep.mono s2 r1) r2)
theorem rd_slB {K : PySem.W.Frag} {σ : L2.St} {H : Hp} {Q : List V → Hp → Prop} {i : Nat} {g : BF} : tB K π W (slB i g) σ H Q → tCons (tVar i) (tB K π W g) σ H Q := fun ⟨c, F, ρ, S, P⟩ => by
  unfold slB at P
  cases e : ioM ρ i with
  | none => rw [e] at P; exact P.elim
  | some m =>
    rw [e] at P
    obtain ⟨p, e1, _⟩ := S.ioM e
    refine ⟨_, e1, ?_⟩
    refine po_bind S P fun xs F2 H2 ρ2 ds s2 S2 r2 P2 => ?_
    exact P2 (_ :: xs) F2 H2 (Same.refl _) S2 (.sl e1 r2)
theorem fb_nil : PA X [] (tB X.K π W nilB) := PA.imp pa_nil fun σ H Q => rd_nilB
theorem fb_cons {f : EF} {g : BF} (ha : PE X e (tE X.K π W f)) (hr : PA X es (tB X.K π W g)) (hs : starEach (e :: es) X.env = (false, eval e X.env) :: starEach es X.env := by rfl) : PA X (e :: es) (tB X.K π W (cnsB f g)) :=
  PA.imp (pa_cons ha hr hs) fun σ H Q => rd_cnsB
theorem fb_sl {i : Nat} {g : BF} (ha : PE X e (tVar i)) (hr : PA X es (tB X.K π W g)) (hs : starEach (e :: es) X.env = (false, eval e X.env) :: starEach es X.env := by rfl) : PA X (e :: es) (tB X.K π W (slB i g)) :=
  PA.imp (pa_cons ha hr hs) fun σ H Q => rd_slB
theorem PK.imp {t t' : TA} (h : PK X kws t) (k : ∀ σ H Q, t' σ H Q → t σ H Q) : PK X kws t' := ⟨fun pos pins s σ H Q I q => h.run pos pins s σ H Q I (k σ H Q q)⟩
theorem fk_nil : PK X [] (tB X.K π W nilB) := PK.imp pk_nil fun σ H Q => rd_nilB
theorem fk_cons {f : EF} {g : BF} (ha : PE X e (tE X.K π W f)) (hr : PK X kws (tB X.K π W g)) : PK X (⟨nm, e, kpos⟩ :: kws) (tB X.K π W (cnsB f g)) :=
  PK.imp (pk_cons ha hr) fun σ H Q => rd_cnsB
theorem fk_sl {i : Nat} {g : BF} (ha : PE X e (tVar i)) (hr : PK X kws (tB X.K π W g)) : PK X (⟨nm, e, kpos⟩ :: kws) (tB X.K π W (slB i g)) :=
  PK.imp (pk_cons ha hr) fun σ H Q => rd_slB

/-- the callee runs -/
theorem run_fnG {pins : List (Addr × Obj)} {σ : L2.St} {H : Hp} {s : Shared} {Q : VK} {us : List Value} {vs : List V} {sp : Sp} {args : Args} (F : FnG X.prog X.w X.K X.mg X.base k f fd ps sp) (hr : RoomG k X.A) (tk : Takes X W)
    (hb : BindsTo s fd args (ps.zip us)) (I : Inv X pins σ H s) (r : Vals vs us) (h : sp vs H Q fun cls d H' => W cls d σ H') : codeAny (model X.prog X.w) X.A (.call (.ref f) args) (fun r s' => match r with
      | .ok (.ret u) => EP X pins σ Q u s'
      | .ok _ => False
      | .error e => X.xe e s') s := by
  refine codeAny_mono (F.run X.A X.stack s H args us vs Q _ hr I.env0 hb r h) fun r s' hq => ?_
  cases r with
  | error e => exact passAt tk σ pins H s e s' I hq
  | ok fl =>
    cases fl with
    | ret u => exact I.after hq
    | next => exact False.elim hq
    | brk => exact False.elim hq
    | cont => exact False.elim hq
theorem codeAny_any {M : Model} {A : Around} {c : Code} {R R' : Result → Shared → Prop} {s : Shared} (h : codeAny M A c R s) (k : ∀ r s', R r s' → R' r s') : codeAny M A c R' s := codeAny_mono h k
/-- from the reading of the arguments -/
theorem rd_call {α : Type} {rel : Rel V α} {σ : L2.St} {H : Hp} {Q : VK} {vs : List V} {as : List AA} {c : Cfg} {F : Hp} {ρ : Rho} {n : Nat} {kk : Res → Rho → R α}
    (hk : ∀ {r : Res} {ρ' : Rho} {v : V} {F' H' : Hp}, ResR X.K H F' H' v r → Sta X.K π c F' H' σ ρ' → c.H0 = c.H0 → (∀ q, H q = none → c.H0 q = none ∧ ∀ j, ¬ OwnAt σ ρ' j q) → Po X.K π W rel c F' σ Q (kk r ρ') → Q v H')
    (S : Sta X.K π c F H σ ρ) (ra : AAs X.K F σ vs as) (P : Po X.K π W rel c F σ Q (if okA n as = true then match toArgs ρ as with
      | some gs => match G gs with
        | .ok r outs => kk r (putA as outs ρ)
        | .exc C fs outs => .exc C fs (putA as outs ρ)
        | .stuck => .stuck
      | none => .stuck
    else .stuck)) : spG X.K n G vs H Q fun cls d H' => W cls d σ H' := by
  split at P
  · rename_i hok
    unfold okA at hok
    rw [Bool.and_eq_true] at hok
    have hl := beq_iff_eq.mp hok.1
    have hn := nodN_of hok.2
    cases e : toArgs ρ as with
    | none => rw [e] at P; exact P.elim
    | some gs =>
      rw [e] at P
      refine ⟨F, gs, S.f, ra.args S e, ra.length.trans hl, ra.nod S e hn, ?_⟩
      have P : Po X.K π W rel c F σ Q (match G gs with
        | .ok r outs => kk r (putA as outs ρ)
        | .exc C fs outs => .exc C fs (putA as outs ρ)
        | .stuck => .stuck) := P
      cases eg : G gs with
      | stuck => rw [eg] at P; exact P
      | exc C fs outs =>
        rw [eg] at P
        exact fun dd fsV F' H' po hd hf hr => P dd fsV F' H' po.f (S.post ra e po) hd hf hr
      | ok r outs =>
        rw [eg] at P
        refine fun v F' H' po rv => hk rv (S.post ra e po) rfl (fun q hq => ?_) (Po.mono po.f P)
        refine ⟨?_, fun j hj => ?_⟩
        · cases z : c.H0 q with
          | none => rfl
          | some o =>
            obtain ⟨o', e'⟩ := S.any z
            rw [hq] at e'
            cases e'
        · have S' := S.post ra e po
          have z : ∃ m, ρ[j]? = some (.own m) ∨ ρ[j]? = some (.io m) := by
            obtain ⟨_, m, h⟩ := hj
            have lk : ∃ s0, ρ[j]? = some s0 ∧ ((∃ m, s0 = .own m) ∨ ∃ m, s0 = .io m) := by
              rcases h with h | h
              · unfold putA at h
                rw [List.getElem?_mapIdx] at h
                cases e0 : ρ[j]? with
                | none => rw [e0] at h; cases h
                | some s0 =>
                  rw [e0] at h
                  cases s0 with
                  | own m0 => exact ⟨_, rfl, .inl ⟨m0, rfl⟩⟩
                  | io m0 => exact ⟨_, rfl, .inr ⟨m0, rfl⟩⟩
                  | no => cases hn : newM as outs j <;> simp [hn, putM] at h
                  | val d => cases hn : newM as outs j <;> simp [hn, putM] at h
              · unfold putA at h
                rw [List.getElem?_mapIdx] at h
                cases e0 : ρ[j]? with
                | none => rw [e0] at h; cases h
                | some s0 =>
                  rw [e0] at h
                  cases s0 with
                  | own m0 => exact ⟨_, rfl, .inl ⟨m0, rfl⟩⟩
                  | io m0 => exact ⟨_, rfl, .inr ⟨m0, rfl⟩⟩
                  | no => cases hn : newM as outs j <;> simp [hn, putM] at h
                  | val d => cases hn : newM as outs j <;> simp [hn, putM] at h
            obtain ⟨s0, h0, ⟨m, rfl⟩ | ⟨m, rfl⟩⟩ := lk
            · exact ⟨m, .inl h0⟩
            · exact ⟨m, .inr h0⟩
          obtain ⟨o, ho⟩ := (S.ownAt ⟨hj.1, z⟩).2.2
          rw [hq] at ho
          cases ho
  · exact P.elim
theorem frz_new {K : PySem.W.Frag} {c : Cfg} {F H : Hp} {σ : L2.St} {ρ : Rho} (S : Sta K π c F H σ ρ) {p : Addr} {vs : List V} (ho : H p = some (.lst vs)) (f1 : F p = none) (f2 : c.H0 p = none) (f3 : ∀ j, ¬ OwnAt σ ρ j p) : Same F (upd F p (.lst vs)) ∧ Sta K π c (upd F p (.lst vs)) H σ ρ := by
  have sm : Same F (upd F p (.lst vs)) := sm_new f1
  refine ⟨sm, S.h0, S.hio, S.f0.trans sm, fun a u q => ?_, fun q o e n => ?_, S.len, fun i s hs => ?_, S.dis⟩
  · by_cases z : a = p
    · subst z
      rw [upd_same] at q
      cases q
      exact ho
    · rw [upd_ne z] at q
      exact S.f _ _ q
  · rw [upd_ne (fun z => by subst z; rw [f2] at e; cases e)]
    exact S.nf q o e n
  · have z := S.rep i s hs
    cases s with
    | no => trivial
    | val d => obtain ⟨w, e1, q⟩ := z; exact ⟨w, e1, q.mono sm⟩
    | own m' =>
      obtain ⟨q, e1, e2, e3, q1⟩ := z
      have nq : q ≠ p := fun w => by subst w; exact f3 i ⟨e1, m', .inl hs⟩
      exact ⟨q, e1, by rw [upd_ne nq]; exact e2, e3, q1.mono sm fun _ hu => hu⟩
    | io m' =>
      obtain ⟨e1, e2, e3, q1⟩ := z
      have nq : π i ≠ p := fun w => by rw [w] at e1; exact f3 i ⟨e1, m', .inr hs⟩
      exact ⟨e1, by rw [upd_ne nq]; exact e2, e3, q1.mono sm fun _ hu => hu⟩
theorem k_asE {σ : L2.St} {H : Hp} {Q : VK} {c : Cfg} {r : Res} {ρ' : Rho} {v : V} {F' H' : Hp} (rv : ResR X.K H F' H' v r) (S : Sta X.K π c F' H' σ ρ') (nw : ∀ q, H q = none → c.H0 q = none ∧ ∀ j, ¬ OwnAt σ ρ' j q) (P : Po X.K π W (relE X.K) c F' σ Q (asE r ρ')) : Q v H' := by
  cases r with
  | v d => exact P v F' H' (Same.refl _) S rv
  | m m =>
    cases m with
    | ins _ _ => exact P.elim
    | lst ds =>
      obtain ⟨p, rfl, n, nF, vs, ho, r⟩ := rv
      obtain ⟨sm, S'⟩ := frz_new S ho nF (nw p n).1 (nw p n).2
      exact P _ _ H' sm S' (.lst upd_same (r.mono sm))
theorem k_asM {σ : L2.St} {H : Hp} {Q : VK} {c : Cfg} {r : Res} {ρ' : Rho} {v : V} {F' H' : Hp} (rv : ResR X.K H F' H' v r) (S : Sta X.K π c F' H' σ ρ') (nw : ∀ q, H q = none → c.H0 q = none ∧ ∀ j, ¬ OwnAt σ ρ' j q) (P : Po X.K π W (relM X.K) c F' σ Q (asM r ρ')) : Q v H' := by
  cases r with
  | v d => exact P.elim
  | m m =>
    obtain ⟨p, rfl, n, nF, hm⟩ := rv
    exact P _ F' H' (Same.refl _) S ⟨p, rfl, nF, (nw p n).1, (nw p n).2, hm⟩
/-- how a def's arguments bind: n positional ones, keywords ks; the parameters in the order ord -/
def KB (K : PySem.W.Frag) (fd : FuncData) (ps ks : List Str) (n : Nat) (ord : List Nat) : Prop :=
  ∀ (s : Shared) (us ws : List Value), K.In s.heap → us.length = n → ws.length = ks.length → BindsTo s fd ⟨us, ks.zip ws⟩ (ps.zip (pick ord (us ++ ws)))
/-- f(e, ..) -/
theorem rd_bind1 {α : Type} {rel : Rel V α} {f : BF} {σ : L2.St} {H : Hp} {Q : VK} {n : Nat} {kk : Res → Rho → R α}
    (hk : ∀ {c : Cfg} {σ : L2.St} {H : Hp} {r : Res} {ρ' : Rho} {v : V} {F' H' : Hp}, ResR X.K H F' H' v r → Sta X.K π c F' H' σ ρ' → c.H0 = c.H0 → (∀ q, H q = none → c.H0 q = none ∧ ∀ j, ¬ OwnAt σ ρ' j q) → Po X.K π W rel c F' σ Q (kk r ρ') → Q v H')
    (t : tG X.K π W rel (callG n G f kk) σ H Q) : tB X.K π W f σ H fun vs H1 => spG X.K n G vs H1 Q fun cls d H' => W cls d σ H' := by
  obtain ⟨c, F, ρ, S, P⟩ := t
  refine po_bind S P fun vs F1 H1 ρ1 as s1 S1 r1 P1 => ?_
  exact rd_call hk S1 r1 P1
theorem fc_call {α : Type} {rel : Rel V α} {g : BF} {kk : Res → Rho → R α}
    (hk : ∀ {Q : VK} {c : Cfg} {σ : L2.St} {H : Hp} {r : Res} {ρ' : Rho} {v : V} {F' H' : Hp}, ResR X.K H F' H' v r → Sta X.K π c F' H' σ ρ' → c.H0 = c.H0 → (∀ q, H q = none → c.H0 q = none ∧ ∀ j, ¬ OwnAt σ ρ' j q) → Po X.K π W rel c F' σ Q (kk r ρ') → Q v H')
    (Fn : FnG X.prog X.w X.K X.mg X.base k f fd ps (spG X.K ps.length G)) (hr : RoomG k X.A) (tk : Takes X W) (hg : Gl X x) (hm : X.mg x = some (.ref f)) (hkp : PySem.W.keepIn X.K (.ref f) = true) (hb : Binds X.K fd ps [])
    (ha : PA X (e :: es) (tB X.K π W g)) (hdb : (x == ("__debug__" : Str)) = false := by decide) (he : starEach (e :: es) X.env = (false, eval e X.env) :: starEach es X.env := by rfl) (hpl : (backTo pos (starEach es X.env)).any (·.1) = false := by rfl) :
    PE X (.Call (.Name x p) (e :: es) [] pos) (tG X.K π W rel (callG ps.length G g kk)) := by
  refine ⟨fun pins s σ H Q I h => ?_⟩
  refine wpAny_Call_Name_kw (ld_glob I hg hm ?_ hdb)
  refine PySem.W.callWith_K (h₀ := X.base) I.ok.mod.kin hkp (thn (ha.run pos pins s σ H _ I (rd_bind1 hk h)) fun us s1 ⟨vs, H1, I1, r, q⟩ => ⟨I1.kIn, ?_⟩) he hpl
  have b := hb s1 us I1.kIn (by rw [List.append_nil, ← r.length]; exact Fn.len _ _ _ _ q)
  rw [List.append_nil] at b
  refine wpAny_call (codeAny_mono (run_fnG Fn hr tk b I1 r q) fun r s' hq => ?_)
  cases r with
  | error e => exact hq
  | ok fl =>
    cases fl with
    | ret u => exact hq
    | next => exact False.elim hq
    | brk => exact False.elim hq
    | cont => exact False.elim hq
theorem fc_call0 {α : Type} {rel : Rel V α} {kk : Res → Rho → R α}
    (hk : ∀ {Q : VK} {c : Cfg} {σ : L2.St} {H : Hp} {r : Res} {ρ' : Rho} {v : V} {F' H' : Hp}, ResR X.K H F' H' v r → Sta X.K π c F' H' σ ρ' → c.H0 = c.H0 → (∀ q, H q = none → c.H0 q = none ∧ ∀ j, ¬ OwnAt σ ρ' j q) → Po X.K π W rel c F' σ Q (kk r ρ') → Q v H')
    (Fn : FnG X.prog X.w X.K X.mg X.base k f fd ps (spG X.K ps.length G)) (hr : RoomG k X.A) (tk : Takes X W) (hg : Gl X x) (hm : X.mg x = some (.ref f)) (hkp : PySem.W.keepIn X.K (.ref f) = true) (hb : Binds X.K fd ps [])
    (hdb : (x == ("__debug__" : Str)) = false := by decide) : PE X (.Call (.Name x p) [] [] pos) (tG X.K π W rel (callG ps.length G nilB kk)) := by
  refine ⟨fun pins s σ H Q I h => ?_⟩
  refine wpAny_Call_Name_kw (ld_glob I hg hm ?_ hdb)
  have q := rd_nilB (rd_bind1 hk h)
  refine PySem.W.callWith_K0 I.kIn hkp ?_
  have b := hb s [] I.kIn (by rw [List.append_nil]; exact Fn.len _ _ _ _ q)
  rw [List.append_nil] at b
  refine wpAny_call (codeAny_mono (run_fnG (us := []) Fn hr tk b I .nil q) fun r s' hq => ?_)
  cases r with
  | error e => exact hq
  | ok fl =>
    cases fl with
    | ret u => exact hq
    | next => exact False.elim hq
    | brk => exact False.elim hq
    | cont => exact False.elim hq
/-- both lists of a call with keywords, in the parameters' order -/
def kwB (n m : Nat) (ord : List Nat) (f g : BF) : BF := fun ρ => (f ρ).bind fun as ρ => (g ρ).bind fun bs ρ => if as.length = n ∧ bs.length = m then .ok (pick ord (as ++ bs)) ρ else .stuck
theorem rd_bindK {α : Type} {rel : Rel V α} {f g : BF} {σ : L2.St} {H : Hp} {Q : VK} {n a m : Nat} {ord : List Nat} {kk : Res → Rho → R α}
    (hk : ∀ {c : Cfg} {σ : L2.St} {H : Hp} {r : Res} {ρ' : Rho} {v : V} {F' H' : Hp}, ResR X.K H F' H' v r → Sta X.K π c F' H' σ ρ' → c.H0 = c.H0 → (∀ q, H q = none → c.H0 q = none ∧ ∀ j, ¬ OwnAt σ ρ' j q) → Po X.K π W rel c F' σ Q (kk r ρ') → Q v H')
    (t : tG X.K π W rel (callG n G (kwB a m ord f g) kk) σ H Q) : tB X.K π W f σ H fun vs H1 => tB X.K π W g σ H1 fun ws H2 => vs.length = a ∧ ws.length = m ∧ spG X.K n G (pick ord (vs ++ ws)) H2 Q fun cls d H' => W cls d σ H' := by
  obtain ⟨c, F, ρ, S, P⟩ := t
  have P : Po X.K π W rel c F σ Q ((f ρ).bind fun as ρ => ((g ρ).bind fun bs ρ => if as.length = a ∧ bs.length = m then .ok (pick ord (as ++ bs)) ρ else .stuck).bind fun as ρ => if okA n as = true then match toArgs ρ as with
      | some gs => match G gs with
        | .ok r outs => kk r (putA as outs ρ)
        | .exc C fs outs => .exc C fs (putA as outs ρ)
        | .stuck => .stuck
      | none => .stuck
    else .stuck) := by
    unfold callG kwB at P
    cases ef : f ρ with
    | stuck => rw [ef] at P; exact P
    | exc C fs ρ' => rw [ef] at P; exact P
    | ok as ρ' => rw [ef] at P; exact P
  refine po_bind S P fun vs F1 H1 ρ1 as s1 S1 r1 P1 => ?_
  have P1 : Po X.K π W rel c F1 σ Q ((g ρ1).bind fun bs ρ => (if as.length = a ∧ bs.length = m then R.ok (pick ord (as ++ bs)) ρ else .stuck).bind fun as ρ => if okA n as = true then match toArgs ρ as with
      | some gs => match G gs with
        | .ok r outs => kk r (putA as outs ρ)
        | .exc C fs outs => .exc C fs (putA as outs ρ)
        | .stuck => .stuck
      | none => .stuck
    else .stuck) := by
    cases eg : g ρ1 with
    | stuck => rw [eg] at P1; exact P1
    | exc C fs ρ' => rw [eg] at P1; exact P1
    | ok as ρ' => rw [eg] at P1; exact P1
  refine po_bind S1 P1 fun ws F2 H2 ρ2 bs s2 S2 r2 P2 => ?_
  split at P2
  · rename_i hl
    exact ⟨r1.length.trans hl.1, r2.length.trans hl.2, rd_call hk S2 (((r1.mono s2).append r2).pick ord) P2⟩
  · exact P2.elim
theorem fc_callK {α : Type} {rel : Rel V α} {g h : BF} {n : Nat} {ord : List Nat} {kk : Res → Rho → R α}
    (hk : ∀ {Q : VK} {c : Cfg} {σ : L2.St} {H : Hp} {r : Res} {ρ' : Rho} {v : V} {F' H' : Hp}, ResR X.K H F' H' v r → Sta X.K π c F' H' σ ρ' → c.H0 = c.H0 → (∀ q, H q = none → c.H0 q = none ∧ ∀ j, ¬ OwnAt σ ρ' j q) → Po X.K π W rel c F' σ Q (kk r ρ') → Q v H')
    (Fn : FnG X.prog X.w X.K X.mg X.base k f fd ps (spG X.K ps.length G)) (hr : RoomG k X.A) (tk : Takes X W) (hg : Gl X x) (hm : X.mg x = some (.ref f)) (hkp : PySem.W.keepIn X.K (.ref f) = true) (hb : KB X.K fd ps ks n ord)
    (ha : PA X (e :: es) (tB X.K π W g)) (hw : PK X kws (tB X.K π W h)) (hall : (backToKw pos (keywordEach kws X.env)).all (·.1.isSome) = true := by rfl) (hks : (backToKw pos (keywordEach kws X.env)).filterMap (·.1) = ks := by rfl)
    (hdb : (x == ("__debug__" : Str)) = false := by decide) (he : starEach (e :: es) X.env = (false, eval e X.env) :: starEach es X.env := by rfl)
    (hpl : ((backTo pos (starEach (e :: es) X.env)).any (·.1) || (backToKw pos (keywordEach kws X.env)).any (·.1.isNone)) = false := by rfl) :
    PE X (.Call (.Name x p) (e :: es) kws pos) (tG X.K π W rel (callG ps.length G (kwB n ks.length ord g h) kk)) := by
  refine ⟨fun pins s σ H Q I hq => ?_⟩
  refine wpAny_Call_Name_kw (ld_glob I hg hm ?_ hdb)
  refine PySem.W.callWith_KW (h₀ := X.base) I.ok.mod.kin hkp hall (thn (ha.run pos pins s σ H _ I (rd_bindK hk hq)) fun us s1 ⟨vs, H1, I1, r, q⟩ => ?_) hpl he
  refine thn (hw.run pos pins s1 σ H1 _ I1 q) fun ws s2 ⟨zs, H2, I2, rz, l1, l2, q2⟩ => ⟨I2.kIn, ?_⟩
  rw [hks]
  refine wpAny_call (codeAny_mono (run_fnG Fn hr tk (hb s2 us ws I2.kIn (r.length.symm.trans l1) (rz.length.symm.trans l2)) I2 (vals_pick (r.append rz) ord) q2) fun r s' hq => ?_)
  cases r with
  | error e => exact hq
  | ok fl =>
    cases fl with
    | ret u => exact hq
    | next => exact False.elim hq
    | brk => exact False.elim hq
    | cont => exact False.elim hq
theorem fc_callK0 {α : Type} {rel : Rel V α} {h : BF} {ord : List Nat} {kk : Res → Rho → R α}
    (hk : ∀ {Q : VK} {c : Cfg} {σ : L2.St} {H : Hp} {r : Res} {ρ' : Rho} {v : V} {F' H' : Hp}, ResR X.K H F' H' v r → Sta X.K π c F' H' σ ρ' → c.H0 = c.H0 → (∀ q, H q = none → c.H0 q = none ∧ ∀ j, ¬ OwnAt σ ρ' j q) → Po X.K π W rel c F' σ Q (kk r ρ') → Q v H')
    (Fn : FnG X.prog X.w X.K X.mg X.base k f fd ps (spG X.K ps.length G)) (hr : RoomG k X.A) (tk : Takes X W) (hg : Gl X x) (hm : X.mg x = some (.ref f)) (hkp : PySem.W.keepIn X.K (.ref f) = true) (hb : KB X.K fd ps ks 0 ord)
    (hw : PK X kws (tB X.K π W h)) (hall : (backToKw pos (keywordEach kws X.env)).all (·.1.isSome) = true := by rfl) (hks : (backToKw pos (keywordEach kws X.env)).filterMap (·.1) = ks := by rfl)
    (hdb : (x == ("__debug__" : Str)) = false := by decide)
    (hpl : ((backTo pos (starEach [] X.env)).any (·.1) || (backToKw pos (keywordEach kws X.env)).any (·.1.isNone)) = false := by rfl) :
    PE X (.Call (.Name x p) [] kws pos) (tG X.K π W rel (callG ps.length G (kwB 0 ks.length ord nilB h) kk)) := by
  refine ⟨fun pins s σ H Q I hq => ?_⟩
  refine wpAny_Call_Name_kw (ld_glob I hg hm ?_ hdb)
  refine PySem.W.callWith_KW0 (h₀ := X.base) I.ok.mod.kin hkp hall ?_ hpl
  refine thn (hw.run pos pins s σ H _ I (rd_nilB (rd_bindK hk hq))) fun ws s2 ⟨zs, H2, I2, rz, l1, l2, q2⟩ => ⟨I2.kIn, ?_⟩
  rw [hks]
  refine wpAny_call (codeAny_mono (run_fnG (us := pick ord ([] ++ ws)) Fn hr tk (hb s2 [] ws I2.kIn rfl (rz.length.symm.trans l2)) I2 (vals_pick (Vals.append (show Vals [] [] from .nil) rz) ord) q2) fun r s' hq => ?_)
  cases r with
  | error e => exact hq
  | ok fl =>
    cases fl with
    | ret u => exact hq
    | next => exact False.elim hq
    | brk => exact False.elim hq
    | cont => exact False.elim hq
end
end FL
/-! FL9: isinstance, repr, truth, displays with a star, x[j] as a target, texts compared. -/
namespace FL
open PySem PySem.Spec PyProof.Rows L2

/-! ### isinstance -/
inductive Ty where
  | non | bl | int | str | tup | lst | dct
def tyN : Ty → String
  | .non => "NoneType"
  | .bl => "bool"
  | .int => "int"
  | .str => "str"
  | .tup => "tuple"
  | .lst => "list"
  | .dct => "dict"
def isTy : Ty → Ty → Bool
  | .non, .non => true
  | .bl, .bl => true
  | .bl, .int => true
  | .int, .int => true
  | .str, .str => true
  | .tup, .tup => true
  | .lst, .lst => true
  | .dct, .dct => true
  | _, _ => false
def typD : D → Option Ty
  | .non => some .non
  | .bl _ => some .bl
  | .int _ => some .int
  | .str _ => some .str
  | .tup _ => some .tup
  | .lst _ => some .lst
  | .scr _ => some .lst
  | .dct _ => some .dct
  | _ => none
def isiD (T : Ty) (d : D) : Option D := (typD d).map fun t => .bl (isTy t T)
theorem kitB_ty (T : Ty) (hT : T ≠ .non) : ∀ t : Ty, kitB (tyN t) (tyN T) = some (isTy t T) := by
  intro t
  cases T <;> first | exact absurd rfl hT | (cases t <;> decide +kernel)
section
variable {K : PySem.W.Frag} {F H : Hp}
theorem tyx_of (s : Same F H) {v : V} {d : D} {t : Ty} (r : Rep K F v d) (h : typD d = some t) : TyX K H v (.type (tyN t)) := by
  cases r with
  | non => cases h; exact .base .non
  | bl b => cases h; exact .base (.bl b)
  | int i => cases h; exact .base (.int i)
  | str x => cases h; exact .base (.str x)
  | fn a => cases h
  | exc _ _ _ _ => cases h
  | tup h1 _ =>
    cases h
    rcases sm_tup s h1 with z | ⟨o, us, n, h2, h3, _⟩
    · rcases z with z | ⟨o, z⟩
      · exact .base (.tup z)
      · exact .fTuple z
    · exact .kTuple h2 h3
  | lst h1 _ => cases h; exact .base (.lst (s _ _ h1))
  | scr h1 =>
    cases h
    rcases Same.seq s h1 with z | ⟨o, us, n, h2, h3, _⟩
    · rcases z with z | ⟨o, z⟩
      · exact .base (.lst z)
      · exact .base (.frz z)
    · exact .kList h2 h3
  | dct h1 _ _ => cases h; exact .base (.dK (s _ _ h1))
end
section
variable {X : Cx} {π : Nat → Addr} {W : WX} {a : Expr} {pos p p2 : Pos} {x y : Str}
theorem pe_ty {T : String} {p : Pos} (hg : Gl X y) (hm : X.mg y = none) (hv : bootBuiltins y = some (.type T)) (hn : y ≠ "__name__" := by decide) (hdb : (y == ("__debug__" : Str)) = false := by decide) : PE X (.Name y p) (tC (.ty T)) :=
  ⟨fun pins s σ H Q I h => ld_blt I hg hm hv ⟨.ty T, H, I, rfl, h⟩ hn hdb⟩
theorem fe_isi {f : EF} {T : Ty} (hT : T ≠ .non) (hg : Gl X x) (hm : X.mg x = none) (hx : x = "isinstance") (hgy : Gl X y) (hmy : X.mg y = none) (hy : bootBuiltins y = some (.type (tyN T))) (ha : PE X a (tE X.K π W f)) (hn : y ≠ "__name__" := by decide) (hdb : (y == ("__debug__" : Str)) = false := by decide)
    (h1 : starEach [a, .Name y p2] X.env = (false, eval a X.env) :: starEach [.Name y p2] X.env := by rfl) (h2 : starEach [.Name y p2] X.env = (false, eval (.Name y p2) X.env) :: starEach [] X.env := by rfl) (hpl : (backTo pos (starEach [.Name y p2] X.env)).any (·.1) = false := by rfl) :
    PE X (.Call (.Name x p) [a, .Name y p2] [] pos) (tE X.K π W (op1 (isiD T) f)) := by
  subst hx
  refine PE.imp (pe_callB call_isi hg hm boot_isinstance (pa_cons ha (pa_cons (pe_ty hgy hmy hy hn hdb) pa_nil h2) h1) (by decide) (by decide) h1 hpl) fun σ H Q ⟨c, F, ρ, S, P⟩ => ?_
  refine po_bind S P fun v F1 H1 ρ1 d s1 S1 r1 P1 => ?_
  obtain ⟨d', e, P2⟩ := po_of P1
  unfold isiD at e
  cases et : typD d with
  | none => rw [et] at e; cases e
  | some t =>
    rw [et] at e
    cases e
    exact ⟨v, .ty (tyN T), .type (tyN t), .type (tyN T), _, rfl, .ty _, tyx_of S1.f r1 et, kit_ty (kitB_ty T hT t), P2 _ F1 H1 (Same.refl _) S1 (.bl _)⟩

/-! ### truth -/
theorem tru_of {K : PySem.W.Frag} {F H : Hp} (s : Same F H) {v : V} {d : D} {b : Bool} (r : Rep K F v d) (h : truD d = some b) : TruV K v H b := by
  cases r with
  | non => cases h; rfl
  | bl b => cases h; rfl
  | int i => cases h; rfl
  | str x =>
    simp only [truD] at h
    split at h
    · rename_i hz
      cases h
      refine ⟨le_line hz, ?_⟩
      rw [Bool.eq_iff_iff]
      simp
    · cases h
  | tup h1 r1 =>
    cases h
    refine .inr (.inl ⟨_, sm_tup s h1, ?_⟩)
    cases r1 <;> rfl
  | lst h1 r1 =>
    cases h
    refine .inl ⟨_, SqL.of (s _ _ h1), ?_⟩
    cases r1 <;> rfl
  | _ => cases h
theorem rd_tru {K : PySem.W.Frag} {f : EF} {σ : L2.St} {H : Hp} {Q : Bool → Hp → Prop} (t : tT K π W (tru f) σ H Q) : (tE K π W f) σ H fun x H1 => ∃ k, TruV K x H1 k ∧ Q k H1 := by
  obtain ⟨c, F, ρ, S, P⟩ := t
  refine po_bind S P fun x F1 H1 ρ1 dx s1 S1 r1 P1 => ?_
  obtain ⟨d, e, P3⟩ := po_of P1
  exact ⟨d, tru_of S1.f r1 e, P3 _ F1 H1 (Same.refl _) S1 rfl⟩
theorem ft_truth {f : EF} (ha : PE X a (tE X.K π W f)) (he : ∀ whole, isTrue a X.env whole = (do let v ← whole; standAt a.pos; holding [v] (truthy v)) := by intro _; rfl) : PT X a (tT X.K π W (tru f)) :=
  PT.imp (pt_truth ha he) fun _ _ _ => rd_tru

/-! ### texts compared -/
def twoS : D → D → Option Bool
  | .str a, .str b => some (decide (a = b))
  | _, _ => none
/-- lists of unlike lengths -/
def difL : D → D → Bool
  | .lst xs, .lst ys => xs.length != ys.length
  | _, _ => false
def eqA (x y : D) : Option D := match twoS x y with
  | some b => some (.bl b)
  | none => if difL x y = true then some (.bl false) else eqD x y
def neA (x y : D) : Option D := match twoS x y with
  | some b => some (.bl (!b))
  | none => if difL x y = true then some (.bl true) else neD x y
/-- the comparison of two lists of unlike lengths -/
def rDif (K : PySem.W.Frag) (b : Bool) : R2 := fun x y H Q => ∃ (p q : Addr) (xs ys : List V), x = .ref p ∧ y = .ref q ∧ SqL K H p xs ∧ SqL K H q ys ∧ xs.length ≠ ys.length ∧ Q (.bl b) H
theorem difL_rep {K : PySem.W.Frag} {F H : Hp} (s : Same F H) {x y : V} {dx dy : D} (rx : Rep K F x dx) (ry : Rep K F y dy) (h : difL dx dy = true) : ∃ (p q : Addr) (xs ys : List V), x = .ref p ∧ y = .ref q ∧ SqL K H p xs ∧ SqL K H q ys ∧ xs.length ≠ ys.length := by
  unfold difL at h
  split at h
  · cases rx with
    | lst h1 r1 =>
      cases ry with
      | lst h2 r2 =>
        refine ⟨_, _, _, _, rfl, rfl, SqL.of (s _ _ h1), SqL.of (s _ _ h2), ?_⟩
        rw [Reps.length r1, Reps.length r2]
        simpa using h
  · cases h
theorem op_eq_dif (hu : X.A.units + 64 < cLine) : OpR X (compareOp .Eq) (rDif X.K false) := by
  intro pins s σ H x y v u Q I rx ry h
  obtain ⟨p, q, xs, ys, rfl, rfl, h1, h2, hn, hq⟩ := h
  cases rx
  cases ry
  obtain ⟨its, r1, p1, _⟩ := I.list h1
  obtain ⟨jts, r2, p2, _⟩ := I.list h2
  refine PySem.SeqAt.eq_list_lengthsAt p1.isList p2.isList ?_ (by omega) ⟨.bl false, H, I, rfl, hq⟩
  have e1 := r1.length
  have e2 := r2.length
  simp
  omega
theorem op_ne_dif (hu : X.A.units + 64 < cLine) : OpR X (compareOp .NotEq) (rDif X.K true) := by
  intro pins s σ H x y v u Q I rx ry h
  obtain ⟨p, q, xs, ys, rfl, rfl, h1, h2, hn, hq⟩ := h
  cases rx
  cases ry
  obtain ⟨its, r1, p1, _⟩ := I.list h1
  obtain ⟨jts, r2, p2, _⟩ := I.list h2
  refine PySem.SeqAt.RcNeAt.lists_lengths p1.isList p2.isList ?_ (by omega) _ _ _ _ ⟨.bl true, H, I, rfl, hq⟩
  have e1 := r1.length
  have e2 := r2.length
  simp
  omega
theorem twoS_rep {K : PySem.W.Frag} {F : Hp} {x y : V} {dx dy : D} {b : Bool} (rx : Rep K F x dx) (ry : Rep K F y dy) (h : twoS dx dy = some b) : scal x y = true ∧ decide (x = y) = b := by
  unfold twoS at h
  split at h
  · cases rx
    cases ry
    cases h
    refine ⟨rfl, ?_⟩
    rw [decide_eq_decide]
    exact ⟨fun e => by cases e; rfl, fun e => by rw [e]⟩
  · cases h
theorem q_eqA {K : PySem.W.Frag} : Op2 K eqA (fun x y H Q => rEq x y H Q ∨ rDif K false x y H Q ∨ rEqD K x y H Q) := by
  intro F H x y dx dy d Q s rx ry e k
  unfold eqA at e
  cases es : twoS dx dy with
  | none =>
    rw [es] at e
    have e : (if difL dx dy = true then some (D.bl false) else eqD dx dy) = some d := e
    split at e
    · rename_i hz
      cases e
      obtain ⟨p, q, xs, ys, h1, h2, h3, h4, h5⟩ := difL_rep s rx ry hz
      exact .inr (.inl ⟨p, q, xs, ys, h1, h2, h3, h4, h5, k _ F H (Grw.refl s) (.bl _)⟩)
    · exact .inr (.inr (q_eq s rx ry e k))
  | some b =>
    rw [es] at e
    cases e
    obtain ⟨h1, h2⟩ := twoS_rep rx ry es
    refine .inl ⟨h1, ?_⟩
    rw [h2]
    exact k _ F H (Grw.refl s) (.bl _)
theorem q_neA {K : PySem.W.Frag} : Op2 K neA (fun x y H Q => rNe x y H Q ∨ rDif K true x y H Q ∨ rNeD K x y H Q) := by
  intro F H x y dx dy d Q s rx ry e k
  unfold neA at e
  cases es : twoS dx dy with
  | none =>
    rw [es] at e
    have e : (if difL dx dy = true then some (D.bl true) else neD dx dy) = some d := e
    split at e
    · rename_i hz
      cases e
      obtain ⟨p, q, xs, ys, h1, h2, h3, h4, h5⟩ := difL_rep s rx ry hz
      exact .inr (.inl ⟨p, q, xs, ys, h1, h2, h3, h4, h5, k _ F H (Grw.refl s) (.bl _)⟩)
    · exact .inr (.inr (q_ne s rx ry e k))
  | some b =>
    rw [es] at e
    cases e
    obtain ⟨h1, h2⟩ := twoS_rep rx ry es
    refine .inl ⟨h1, ?_⟩
    rw [h2]
    exact k _ F H (Grw.refl s) (.bl _)
theorem o_eqA (hu : X.A.units + 64 < cLine) : OpR X (compareOp .Eq) (fun x y H Q => rEq x y H Q ∨ rDif X.K false x y H Q ∨ rEqD X.K x y H Q) := op_eq.or ((op_eq_dif hu).or (op_eqD hu))
theorem o_neA (hu : X.A.units + 64 < cLine) : OpR X (compareOp .NotEq) (fun x y H Q => rNe x y H Q ∨ rDif X.K true x y H Q ∨ rNeD X.K x y H Q) := op_ne.or ((op_ne_dif hu).or (op_neD hu))

/-! ### repr -/
def showD (n : Nat) (d : D) : Bool := shp n d && (toP d).showable && small (toP d).shown.length
def reprC : List D → Option D
  | [d] => if showD 8 d = true then some (.str (toP d).shown) else none
  | _ => none
def rRepr (K : PySem.W.Frag) : List V → Hp → VK → Prop := fun xs H Q => ∃ x d, xs = [x] ∧ Dp K H x d ∧ d.canLay0 = true ∧ d.showable = true ∧ d.shown.length ≤ sizeLine ∧ d.depth ≤ 8 ∧ Q (.str d.shown) H
theorem q_repr {K : PySem.W.Frag} : OpC K reprC (rRepr K) := by
  intro F H vs ds d Q s r e k
  unfold reprC at e
  split at e
  · rename_i d0
    split at e
    · rename_i hz
      cases e
      unfold showD at hz
      rw [Bool.and_eq_true, Bool.and_eq_true] at hz
      obtain ⟨⟨z1, z2⟩, z3⟩ := hz
      obtain ⟨v, rfl, r1⟩ := Reps.one r
      obtain ⟨y1, y2⟩ := shp_ok 8 _ z1
      exact ⟨v, _, rfl, dp_of s 8 _ _ z1 r1, y1, z2, le_line (small_le z3), y2, k _ F H (Grw.refl s) (.str _)⟩
    · cases e
  · cases e
theorem o_repr (hg : X.A.guards = some []) (hu : X.A.units + 64 < cLine) : CallR X (.builtin "repr") (rRepr X.K) := by
  intro pins s σ H xs us Q I r h
  obtain ⟨x, d, rfl, dp, hc, hs, hl, hd, q⟩ := h
  cases r with
  | cons r1 rt =>
    cases rt
    have fin : ∀ {h' : Heap} {tk : Nat} {u : Tok}, (∀ b o, s.heap.get? b = some o → h'.get? b = some o) → EP X pins σ Q (.str d.shown u) { s with heap := h', toks := tk } := fun {h' tk u} hk => ⟨.str d.shown, H, I.kept (t' := tk) hk, ⟨u, rfl⟩, q⟩
    have key : ∀ a as, Reads s.heap (.ref a) d as → wpAny (model X.prog X.w) X.A (call (.builtin "repr") [.ref a]) (EP X pins σ Q) X.xe s := fun a as rd =>
      repr_of_reads' rd hs (PyData.noDict_hsm (PyData.hasDict_of_canLay d hc)) hg (by omega) (fun _ _ e => e) (fun h' u tk hk => fin hk) hl
    obtain ⟨as, rd⟩ := Dp.reads I _ _ _ dp r1
    cases dp with
    | non => cases r1; exact PySem.P.repr_of_none (fin (h' := s.heap) (fun _ _ e => e))
    | bl b =>
      cases r1
      refine PySem.P.repr_of_bool ?_
      have e : (PyData.bool b).shown = (if b then ("True" : Str) else "False") := by cases b <;> rfl
      rw [e] at fin
      exact fin (h' := s.heap) (fun _ _ e => e)
    | int i =>
      obtain ⟨t, rfl⟩ := r1
      exact PySem.P.repr_of_int (of_decide_eq_true hs) (fin (h' := s.heap) (fun _ _ e => e))
    | str y =>
      obtain ⟨t, rfl⟩ := r1
      exact PySem.P.repr_of_str (fin (h' := s.heap) (fun _ _ e => e)) hl
    | lst h1 h2 => cases r1; exact key _ _ rd
    | tup h1 h2 => cases r1; exact key _ _ rd
end

/-! ### displays with a star -/
section
variable {X : Cx} {π : Nat → Addr} {W : WX} {e : Expr} {es : List Expr} {pos p : Pos}
def starA (f : EF) (g : Rho → R (List D)) : Rho → R (List D) := fun ρ => (f ρ).bind fun x ρ => (R.of (seqD x) ρ).bind fun xs ρ => (g ρ).bind fun ys ρ => .ok (xs ++ ys) ρ
theorem seq_rep {K : PySem.W.Frag} {F H : Hp} (s : Same F H) {v : V} {d : D} {ds : List D} (r : Rep K F v d) (h : seqD d = some ds) : ∃ p xs, v = .ref p ∧ (SqT K H p xs ∨ SqL K H p xs) ∧ Reps K F xs ds := by
  cases r with
  | tup h1 r1 => cases h; exact ⟨_, _, rfl, .inl (sm_tup s h1), r1⟩
  | lst h1 r1 => cases h; exact ⟨_, _, rfl, .inr (SqL.of (s _ _ h1)), r1⟩
  | scr h1 => cases h; exact ⟨_, _, rfl, .inr (Same.seq s h1), Reps.ints _⟩
  | _ => cases h
theorem fa_star {f : EF} {g : Rho → R (List D)} (ha : PE X e (tE X.K π W f)) (hr : PA X es (tA X.K π W g)) (hs : starEach (.Starred e p :: es) X.env = (true, eval e X.env) :: starEach es X.env := by rfl) : PA X (.Starred e p :: es) (tA X.K π W (starA f g)) :=
  PA.imp (StX.pa_star ha hr hs) fun σ H Q ⟨c, F, ρ, S, P⟩ => by
    refine po_bind S P fun x F1 H1 ρ1 dx s1 S1 r1 P1 => ?_
    cases ed : seqD dx with
    | none => rw [ed] at P1; exact P1.elim
    | some ds =>
      rw [ed] at P1
      obtain ⟨q, xs, rfl, hx, rs⟩ := seq_rep S1.f r1 ed
      refine ⟨q, xs, rfl, hx, ?_⟩
      have P2 : Po X.K π W (relA X.K) c F1 σ Q ((g ρ1).bind fun ys ρ => .ok (ds ++ ys) ρ) := P1
      refine po_bind S1 P2 fun ys F2 H2 ρ2 es s2 S2 r2 P3 => ?_
      exact P3 _ F2 H2 (Same.refl _) S2 ((rs.mono s2).append r2)

/-! ### x[j] as a target -/
def subGO (i : Nat) (g : EF) : GF := fun d ρ => match subG i g d ρ with
  | .ok _ ρ => some ρ
  | _ => none
theorem fg_sub {i : Nat} {x : Str} {j : Expr} {g : EF} {tpos : Pos} (hx : PE X (.Name x p) (tVar i)) (hj : PE X j (tE X.K π W g))
    (ha : ∀ v, assign (.Subscript (.Name x p) j tpos) X.env v = (do
      let ov ← holding [v] (eval (.Name x p) X.env)
      let iv ← holding [v, ov] (eval j X.env)
      standAt tpos
      holding [v, ov, iv] (setItem ov iv v)
      release [v, ov, iv] []) := by intro _; rfl) : PG X (.Subscript (.Name x p) j tpos) (tGt X.K π [] (subGO i g)) :=
  PG.imp (pg_sub hx hj set_list ha) fun v σ H Q ⟨c, F, ρ, d, S, rv, P⟩ => by
    unfold subGO subG at P
    cases eg : getM i ρ with
    | none => rw [eg] at P; exact P.elim
    | some z =>
      obtain ⟨ds0, k0⟩ := z
      rw [eg] at P
      obtain ⟨q, vs0, e0, ho0, _⟩ := S.getM eg
      refine ⟨.ref q, e0, ?_⟩
      cases hg : g ρ with
      | stuck => rw [hg] at P; exact P.elim
      | exc C fs b => rw [hg] at P; exact P.elim
      | ok dj ρ2 =>
        rw [hg] at P
        refine ⟨c, F, ρ, S, ?_⟩
        rw [hg]
        intro w F2 H2 s2 S2 r2
        cases eg2 : getM i ρ2 with
        | none =>
          simp only [R.ok_bind, eg2] at P
          exact P.elim
        | some z =>
          obtain ⟨ds, k⟩ := z
          simp only [R.ok_bind, eg2] at P
          obtain ⟨q', vs, e1, ho, rr, fin⟩ := S2.getM eg2
          rw [e0] at e1
          cases e1
          cases ep : putO ds dj d with
          | none =>
            rw [ep] at P
            exact P.elim
          | some es =>
            rw [ep] at P
            unfold putO at ep
            split at ep
            · rename_i zz
              split at ep
              · rename_i n en
                cases ep
                cases r2
                refine ⟨q, vs, zz, n, rfl, rfl, ho, by rw [Reps.length rr]; exact en, P _ F2 _ s2 (Off.refl _) (fin _ _ (Reps.set (Rep.mono s2 rv) n rr))⟩
              · cases ep
            · cases ep
/-! ### {} -/
theorem fe_dict0 : PE X (.Dict [] [] pos) (tE X.K π W (cst (.dct []))) := PE.imp pe_dnewK fun σ H Q ⟨c, F, ρ, S, P⟩ => fun q hq => by
  have g := Grw.newF (o := .dK []) S.f hq
  exact P (.ref q) _ _ g.f (S.grow g) (.dct (kvs := []) (ds := []) upd_same rfl .nil)
end
end FL
/-! FL10: a dict in a row of numbers. -/
namespace FL
open PySem PySem.Spec PyProof.Rows PySem.SeqAt PySem.MeetsSeq L2
section
variable {A : Around} {s : Shared}
theorem int_eq_dict (b : Int) (u : Tok) (l : Addr) (c : Value) (es : Array DictEntry) (n : Nat) (dd : Option Addr) (sl : Array (Option Value)) :
    Meets (Builtin.«int.__eq__» ⟨[.int b u, .ref l], []⟩) (fun _ R s => s.heap.get? l = some { cls := c, dict := dd, data := .dict es n, slots := sl } ∧ R (.ok (.ret .notImplemented)) s) :=
  .of_wp fun prog w A R s h => by obtain ⟨hp, g, d, tk, os⟩ := s; obtain ⟨hl, h⟩ := h; wp_walk using wpAny_loadPart' hl, wpAny_load hl; exact ⟨_, rfl, h⟩
theorem dict_eq_int (l : Addr) (es : Array DictEntry) (n : Nat) (dd : Option Addr) (sl : Array (Option Value)) (b : Int) (u : Tok) :
    Meets (Builtin.«dict.__eq__» ⟨[.ref l, .int b u], []⟩) (fun _ R s => s.heap.get? l = some { cls := .type "dict", dict := dd, data := .dict es n, slots := sl } ∧ R (.ok (.ret .notImplemented)) s) :=
  .of_wp fun prog w A R s h => by obtain ⟨hp, g, d, tk, os⟩ := s; obtain ⟨hl, h⟩ := h; have f1 := F.sub_int_dict; wp_walk using wpAny_loadPart' hl; exact ⟨_, rfl, h⟩
theorem rc_int_dict {l : Addr} {es : Array DictEntry} {n : Nat} {dd : Option Addr} {sl : Array (Option Value)} (b : Int) (u : Tok) (ho : s.heap.get? l = some { cls := .type "dict", dict := dd, data := .dict es n, slots := sl }) (hu : A.units < cLine) : RcAt A s (.int b u) (.ref l) false := fun prog w E Q h =>
  rc_eq_decline_or (k := false) (typeIs_int s b u) ⟨_, ho, rfl⟩ (by decide) F.sub_dict_int F.slot_int_eq F.slot_dict_eq_refl
    (fun _ hq => call_meets F.slot_int_eq (typeIs_int s b u) F.entry_int_eq (F.args_int_eq_2 _ _) (int_eq_dict b u l (.type "dict") es n dd sl) ⟨ho, hq⟩)
    (fun _ hq => call_meets F.slot_dict_eq_refl ⟨_, ho, rfl⟩ F.entry_dict_eq (F.args_dict_eq_2 _ _) (dict_eq_int l es n dd sl b u) ⟨ho, hq⟩)
    (fun _ hq => wpAny_of_eq (rfl : isSame (.int b u) (.ref l) = pure false) hq) (.inr hu) h
theorem eq_int_dict {l : Addr} {es : Array DictEntry} {n : Nat} {dd : Option Addr} {sl : Array (Option Value)} (b : Int) (u : Tok) (ho : s.heap.get? l = some { cls := .type "dict", dict := dd, data := .dict es n, slots := sl }) (hu : A.units < cLine) : EqAt A s (.int b u) (.ref l) false := fun prog w E Q h => by
  unfold eqBool
  refine wpAny_holding ?_
  refine wpAny_ite_split (fun hab => absurd (eq_of_beq hab) nofun) (fun _ => ?_)
  exact wpAny_bind (rc_int_dict b u ho hu prog w E _ (wpAny_truthy_bool h))
end

open L2
/-- a dict, in a list or tuple of numbers -/
def rInK (K : PySem.W.Frag) (neg : Bool) : R2 := fun x y H Q => ∃ (a : Addr) (kvs : List (Key × V)) (p : Addr) (ns : List Int), x = .ref a ∧ H a = some (.dK kvs) ∧ y = .ref p ∧ (SqL K H p (ns.map V.int) ∨ SqT K H p (ns.map V.int)) ∧ Q (.bl neg) H
section
variable {X : Cx}
theorem ints_at {ns : List Int} {its : List Value} (r : Vals (ns.map V.int) its) : ∀ y ∈ its, ∃ i t, y = .int i t := by
  induction ns generalizing its with
  | nil => cases r; intro y hy; cases hy
  | cons n ns ih =>
    cases r with
    | cons a b =>
      intro y hy
      rcases List.mem_cons.mp hy with e | e
      · obtain ⟨t, ht⟩ := a
        exact ⟨n, t, by rw [e, ht]⟩
      · exact ih b y e
theorem op_in_k (hu : X.A.units + 64 < cLine) : OpR X (compareOp .In) (rInK X.K false) := by
  intro pins s σ H x y v u Q I rx ry h
  obtain ⟨a, kvs, p, ns, rfl, ha, rfl, hq, q⟩ := h
  cases rx
  cases ry
  obtain ⟨_, _, vs, _, o, es, ep, h1, h2, h4, _⟩ := (show ObjOk X.prog X.w H s.heap a (.dK kvs) from I.hok a _ ha)
  obtain ⟨oc, od, dt, sl⟩ := o
  have h3 : oc = .type "dict" ∧ dt = .dict es ep := ⟨h2.1, h4⟩
  obtain ⟨rfl, rfl⟩ := h3
  have key : ∀ its : List Value, Vals (ns.map V.int) its → ∀ w, w ∈ its.toArray → EqAt X.A.in1 s w (.ref a) false := fun its r w hw => by
    obtain ⟨i, t, rfl⟩ := ints_at r w (by simpa using hw)
    exact eq_int_dict i t h1 (by show X.A.units + 1 < cLine; omega)
  rcases hq with hq | hq
  · obtain ⟨its, r, pl, hz⟩ := I.list hq
    refine SeqAt.in_listAt (fun _ => false) pl.isList (key its r) ⟨.bl _, H, I, rfl, ?_⟩
    rw [show its.toArray.any (fun _ => false) = false by simp]
    exact q
  · obtain ⟨its, r, pl, hz⟩ := I.tuple hq
    refine SeqAt.in_tupleAt (fun _ => false) pl (key its r) ⟨.bl _, H, I, rfl, ?_⟩
    rw [show its.toArray.any (fun _ => false) = false by simp]
    exact q
theorem op_nin_k (hu : X.A.units + 64 < cLine) : OpR X (compareOp .NotIn) (rInK X.K true) := by
  intro pins s σ H x y v u Q I rx ry h
  obtain ⟨a, kvs, p, ns, rfl, ha, rfl, hq, q⟩ := h
  cases rx
  cases ry
  obtain ⟨_, _, vs, _, o, es, ep, h1, h2, h4, _⟩ := (show ObjOk X.prog X.w H s.heap a (.dK kvs) from I.hok a _ ha)
  obtain ⟨oc, od, dt, sl⟩ := o
  have h3 : oc = .type "dict" ∧ dt = .dict es ep := ⟨h2.1, h4⟩
  obtain ⟨rfl, rfl⟩ := h3
  have key : ∀ its : List Value, Vals (ns.map V.int) its → ∀ w, w ∈ its.toArray → EqAt X.A.in1 s w (.ref a) false := fun its r w hw => by
    obtain ⟨i, t, rfl⟩ := ints_at r w (by simpa using hw)
    exact eq_int_dict i t h1 (by show X.A.units + 1 < cLine; omega)
  rcases hq with hq | hq
  · obtain ⟨its, r, pl, hz⟩ := I.list hq
    refine SeqAt.notIn_listAt (fun _ => false) pl.isList (key its r) ⟨.bl _, H, I, rfl, ?_⟩
    rw [show its.toArray.any (fun _ => false) = false by simp]
    exact q
  · obtain ⟨its, r, pl, hz⟩ := I.tuple hq
    refine SeqAt.notIn_tupleAt (fun _ => false) pl (key its r) ⟨.bl _, H, I, rfl, ?_⟩
    rw [show its.toArray.any (fun _ => false) = false by simp]
    exact q
end
def intsD : List D → Option (List Int)
  | [] => some []
  | .int i :: ds => (intsD ds).map (i :: ·)
  | _ :: _ => none
theorem intsD_of : ∀ {ds : List D} {ns : List Int}, intsD ds = some ns → ds = ns.map D.int
  | [], _, e => by cases e; rfl
  | .int i :: ds, ns, e => by
    unfold intsD at e
    cases e1 : intsD ds with
    | none => rw [e1] at e; cases e
    | some l =>
      rw [e1] at e
      cases e
      rw [intsD_of e1]
      rfl
/-- is it a dict in a row of numbers -/
def dctIn : D → D → Bool
  | .dct _, .lst ds => (intsD ds).isSome
  | .dct _, .tup ds => (intsD ds).isSome
  | _, _ => false
def inA (x y : D) : Option D := if dctIn x y = true then some (.bl false) else inD x y
def ninA (x y : D) : Option D := if dctIn x y = true then some (.bl true) else ninD x y
theorem dctIn_rep {K : PySem.W.Frag} {F H : Hp} (s : Same F H) {x y : V} {dx dy : D} (rx : Rep K F x dx) (ry : Rep K F y dy) (h : dctIn dx dy = true) : ∃ (a : Addr) (kvs : List (Key × V)) (p : Addr) (ns : List Int), x = .ref a ∧ H a = some (.dK kvs) ∧ y = .ref p ∧ (SqL K H p (ns.map V.int) ∨ SqT K H p (ns.map V.int)) := by
  unfold dctIn at h
  split at h
  · cases rx with
    | dct h1 _ _ =>
      cases ry with
      | lst h2 r2 =>
        cases e : intsD _ with
        | none => rw [e] at h; cases h
        | some ns =>
          rw [intsD_of e] at r2
          have := Reps.of_ints r2
          subst this
          exact ⟨_, _, _, ns, rfl, s _ _ h1, rfl, .inl (SqL.of (s _ _ h2))⟩
  · cases rx with
    | dct h1 _ _ =>
      cases ry with
      | tup h2 r2 =>
        cases e : intsD _ with
        | none => rw [e] at h; cases h
        | some ns =>
          rw [intsD_of e] at r2
          have := Reps.of_ints r2
          subst this
          exact ⟨_, _, _, ns, rfl, s _ _ h1, rfl, .inr (sm_tup s h2)⟩
  · cases h
theorem q_inA {K : PySem.W.Frag} : Op2 K inA (fun x y H Q => rInK K false x y H Q ∨ rInA K x y H Q) := by
  intro F H x y dx dy d Q s rx ry e k
  unfold inA at e
  split at e
  · rename_i hz
    cases e
    obtain ⟨a, kvs, p, ns, h1, h2, h3, h4⟩ := dctIn_rep s rx ry hz
    exact .inl ⟨a, kvs, p, ns, h1, h2, h3, h4, k _ F H (Grw.refl s) (.bl _)⟩
  · exact .inr (q_in s rx ry e k)
theorem q_ninA {K : PySem.W.Frag} : Op2 K ninA (fun x y H Q => rInK K true x y H Q ∨ rNinA K x y H Q) := by
  intro F H x y dx dy d Q s rx ry e k
  unfold ninA at e
  split at e
  · rename_i hz
    cases e
    obtain ⟨a, kvs, p, ns, h1, h2, h3, h4⟩ := dctIn_rep s rx ry hz
    exact .inl ⟨a, kvs, p, ns, h1, h2, h3, h4, k _ F H (Grw.refl s) (.bl _)⟩
  · exact .inr (q_nin s rx ry e k)
theorem o_inA {X : Cx} (hu : X.A.units + 65 < cLine) : OpR X (compareOp .In) (fun x y H Q => rInK X.K false x y H Q ∨ rInA X.K x y H Q) := (op_in_k (by omega)).or (o_in hu)
theorem o_ninA {X : Cx} (hu : X.A.units + 65 < cLine) : OpR X (compareOp .NotIn) (fun x y H Q => rInK X.K true x y H Q ∨ rNinA X.K x y H Q) := (op_nin_k (by omega)).or (o_nin hu)
end FL
/-! FL11: from the law's def to the row. -/
namespace FL
open PySem PySem.Spec PyProof.Rows L2

/-- nothing is frozen or tracked but the script -/
structure Start (K : PySem.W.Frag) (h : Heap) (a : Addr) (vs : List Value) (H : Hp) : Prop where
  only : ∀ b, H b = none ∨ (b = a ∧ ∃ xs, H b = some (.frz { cls := .type "list", data := .seq vs.toArray } (.lst xs)))
  kn : H a ≠ none → K.lookup a = none
section
variable {P : Program} {w : World} {K : PySem.W.Frag} {mg mb : Str → Option Value} {k : Nat} {fa a : Addr} {fd : FuncData} {x : Str} {G : List Arg → RG} {s1 : Shared} {vs : List Value} {ns : List Int}
theorem Start.other {h : Heap} {H : Hp} (T : Start K h a vs H) (ha : h.get? a = some { cls := .type "list", data := .seq vs.toArray }) {b : Addr} {o : Obj} (e : h.get? b = some o) (hd : ∀ (us : Array Value) (n : Nat), o.data ≠ .seq us n) : H b = none := by
  rcases T.only b with z | ⟨rfl, _⟩
  · exact z
  · rw [ha] at e
    cases e
    exact absurd rfl (hd _ _)
/-- one run of the law's def, at an abstract heap -/
theorem top_run (hr : RoomG k callerA) (KX : K.In s1.heap) (hns : s1.heap.Ns mainGlobals mg) (hb : s1.heap.Ns builtinsNs mb) (hbb : ∀ y : Str, y ≠ "__name__" → mb y = bootBuiltins y) (hlim : s1.heap.NoLimit) (hgen : s1.gens = #[])
    (ha : s1.heap.get? a = some { cls := .type "list", data := .seq vs.toArray }) (Fn : ∀ base : Heap, K.In base → base.Ns mainGlobals mg → FnG P w K mg base k fa fd [x] (spG K 1 G)) (hbind : ∀ (s : Shared) (u : Value), BindsTo s fd ⟨[u], []⟩ [(x, u)])
    (hG : G [.val (.scr ns)] = .ok (.v (.bl true)) []) {H : Hp} (T : Start K s1.heap a vs H) (hS : SqL K H a (ns.map V.int)) (hok : HOk P w H s1.heap) :
    codeAny (model P w) callerA (.call (.ref fa) ⟨[.ref a], []⟩) (fun r s' => (r = .ok (.ret (.bool true)) ∧ OldK s1.heap s'.heap) ∧ s'.os = s1.os ∧ AllBare s'.gens) s1 := by
  have lift : ∀ {b : Addr} {o : Obj}, s1.heap.get? b = some o → H b = none → (hidT s1.heap H).get? b = some o := hidT_get
  have nsUp : ∀ {b : Addr} {m : Str → Option Value}, s1.heap.Ns b m → (hidT s1.heap H).Ns b m := by
    rintro b m ⟨o, es, ep, e, d, r⟩
    refine ⟨o, es, ep, lift e (T.other ha e fun us n z => ?_), d, r⟩
    rw [d] at z
    cases z
  have kUp : K.In (hidT s1.heap H) := fun b o e => lift (KX b o e) (by
    rcases T.only b with z | ⟨rfl, xs, z⟩
    · exact z
    · have := T.kn (by rw [z]; simp)
      rw [this] at e
      cases e)
  have limUp : (hidT s1.heap H).NoLimit := by
    obtain ⟨mc, l1, l2⟩ := hlim
    exact ⟨mc, nsUp l1, l2⟩
  have E0 : Env0 P w K mg (hidT s1.heap H) callerA [] s1 H :=
    ⟨rfl, ⟨kUp, nsUp hns, ⟨mb, nsUp hb, hbb⟩, limUp⟩, fun b o e => of_hidT e, Nat.le_of_eq (hidT_size _ _), trivial, (fun b hb => by cases hb), hok, .of_eq hgen⟩
  have want : spG K 1 G [.ref a] H (fun v _ => v = .bl true) (fun _ _ _ => False) := by
    refine ⟨H, [.val (.scr ns)], Same.refl _, .val (.scr hS) .nil, rfl, List.nodup_nil, ?_⟩
    rw [hG]
    intro v F' H' _ rv
    cases rv
    rfl
  refine codeAny_mono ((Fn _ kUp (nsUp hns)).run callerA [] s1 H ⟨[.ref a], []⟩ [.ref a] [.ref a] (fun v _ => v = .bl true) (fun _ _ _ => False) hr E0 (hbind s1 (.ref a)) (.cons rfl .nil) want) fun r s' hq => ?_
  match r, hq with
  | .error e, hq =>
    obtain ⟨_, _, _, _, _, _, _, _, _, _, _, _, z⟩ := hq
    exact z.elim
  | .ok .next, hq => exact False.elim hq
  | .ok .brk, hq => exact False.elim hq
  | .ok .cont, hq => exact False.elim hq
  | .ok (.ret u), hq =>
    obtain ⟨v, H', os, bare, un, hok2, rv, e⟩ := hq
    have e : v = .bl true := e
    subst e
    cases (show u = Value.bool true from rv)
    refine ⟨⟨rfl, OldK.of_keep fun b o eo => ?_⟩, os, bare⟩
    rcases T.only b with z | ⟨rfl, xs, z⟩
    · exact un.keep b o eo z (fun y => by cases y) (fun y => by cases y)
    · obtain ⟨e1, _⟩ := hok b _ z
      obtain ⟨e2, _⟩ := hok2 b _ (un.frzs b _ _ z)
      rw [eo] at e1
      cases e1
      exact e2
theorem top_law (hr : RoomG k callerA) (KX : K.In s1.heap) (hns : s1.heap.Ns mainGlobals mg) (hb : s1.heap.Ns builtinsNs mb) (hbb : ∀ y : Str, y ≠ "__name__" → mb y = bootBuiltins y) (hlim : s1.heap.NoLimit) (hgen : s1.gens = #[])
    (ha : s1.heap.get? a = some { cls := .type "list", data := .seq vs.toArray }) (hi : IntsAre vs ns) (hl : ns.length ≤ sizeLine) (Fn : ∀ base : Heap, K.In base → base.Ns mainGlobals mg → FnG P w K mg base k fa fd [x] (spG K 1 G)) (hbind : ∀ (s : Shared) (u : Value), BindsTo s fd ⟨[u], []⟩ [(x, u)])
    (hG : G [.val (.scr ns)] = .ok (.v (.bl true)) []) : codeAny (model P w) callerA (.call (.ref fa) ⟨[.ref a], []⟩) (fun r s' => (r = .ok (.ret (.bool true)) ∧ OldK s1.heap s'.heap) ∧ s'.os = s1.os ∧ AllBare s'.gens) s1 := by
  have rv := vals_ints hi
  have hlen := hi.length
  cases hk : K.lookup a with
  | some o =>
    have e := KX a o hk
    rw [ha] at e
    cases e
    refine top_run hr KX hns hb hbb hlim hgen ha Fn hbind hG (H := fun _ => none) ⟨fun _ => .inl rfl, fun z => absurd rfl z⟩ (.inr ⟨_, vs.toArray, 0, hk, rfl, rfl, rfl, ?_, ?_⟩) (fun b u z => by cases (show (none : Option HO) = some u from z))
    · rw [List.size_toArray, hlen]
      exact hl
    · simpa using rv
  | none =>
    refine top_run hr KX hns hb hbb hlim hgen ha Fn hbind hG (H := upd (fun _ => none) a (.frz { cls := .type "list", data := .seq vs.toArray } (.lst (ns.map V.int)))) ⟨fun b => ?_, fun _ => hk⟩ (.inl (.inr ⟨_, upd_same⟩)) (fun b u z => ?_)
    · by_cases q : b = a
      · subst q
        exact .inr ⟨rfl, _, upd_same⟩
      · exact .inl (upd_ne q)
    · by_cases q : b = a
      · subst q
        rw [upd_same] at z
        cases z
        exact ⟨ha, by rw [List.length_map]; exact hl, vs, _, rv, ha⟩
      · rw [upd_ne q] at z
        cases z
end
theorem room_top {k : Nat} (h : k ≤ 200) : RoomG k callerA := by
  refine ⟨⟨rfl, ?_, ?_⟩, rfl⟩
  · have y : callerA.depth ≤ 310 := by decide +kernel
    have z : 1000 ≤ recursionLimit := by decide +kernel
    omega
  · have y : callerA.units ≤ 100 := by decide +kernel
    have z : 3700 ≤ cLine := by decide +kernel
    omega
/-- the goal that the head leaves -/
theorem walkG {l : PySem.W.OpenLaw} {n k : Nat} {q : Program} {loose : List Str} {XP : (Str → Option Value) → Heap → Prop} {YP : World → Heap → Prop} {d : DefRec} {K : Params → PySem.W.Frag} {G : World → (Str → Option Value) → List Arg → RG} {x : Str}
    (hn : l.most = some n) (hn2 : n ≤ sizeLine) (hdf : d.params.defaults = []) (hk : k ≤ 200) (hY : ∀ (w : World) (h : Heap), YP w h → (K w.params).In h)
    (Fn : ∀ (w : World) (mg : Str → Option Value) (fa : Addr) (h : Heap), (K w.params).In h → h.Ns mainGlobals mg → XP mg h → mg d.name = some (.ref fa) →
      ∃ fd : FuncData, (∀ (s : Shared) (u : Value), BindsTo s fd ⟨[u], []⟩ [(x, u)]) ∧ (∀ base : Heap, (K w.params).In base → base.Ns mainGlobals mg → FnG l.prog w (K w.params) mg base k fa fd [x] (spG (K w.params) 1 (G w mg))) ∧
        ∀ ns : List Int, ns.length ≤ n → G w mg [.val (.scr ns)] = .ok (.v (.bl true)) []) : PySem.W.WalkO q loose XP YP l.row.toRowW d [] (fun f vs => PySem.call f vs) := by
  refine Att.attach_call hn hdf fun w s₀ s₁ mg mb fa o pm cd doc a vs ns Gr Y ho hd hcd hmg hobj hints hlen hg => ?_
  obtain ⟨fd, hb, hF, hq⟩ := Fn w mg fa _ (hY w _ Y) Gr.T.g Gr.X hmg
  exact codeAny_mono (top_law (room_top hk) (hY w _ Y) Gr.T.g Gr.T.b Gr.T.builtins Gr.T.nolimit hg hobj hints (Nat.le_trans hlen hn2) hF hb (hq ns hlen)) fun r s' z => ⟨z.1.1, z.1.2, z.2⟩
end FL
/-! FL12: calls, as the printed terms write them. -/
namespace FL
open PySem PySem.Spec PyProof.Rows L2
section
variable {X : Cx} {π : Nat → Addr} {W : WX} {e a b : Expr} {es : List Expr} {pos p : Pos} {k : Nat} {f : Addr} {fd : FuncData} {ps ks : List Str} {G : List Arg → RG} {x : Str} {kws : List Keyword} {g h : BF} {n : Nat} {ord : List Nat}
theorem fe_call {nn : Nat} (Fn : FnG X.prog X.w X.K X.mg X.base k f fd ps (spG X.K ps.length G)) (hr : RoomG k X.A) (tk : Takes X W) (hg : Gl X x) (hm : X.mg x = some (.ref f)) (hkp : PySem.W.keepIn X.K (.ref f) = true) (hb : Binds X.K fd ps [])
    (ha : PA X (e :: es) (tB X.K π W g)) (hdb : (x == ("__debug__" : Str)) = false := by decide) (he : starEach (e :: es) X.env = (false, eval e X.env) :: starEach es X.env := by rfl) (hpl : (backTo pos (starEach es X.env)).any (·.1) = false := by rfl) (hnn : ps.length = nn := by rfl) :
    PE X (.Call (.Name x p) (e :: es) [] pos) (tE X.K π W (callE nn G g)) := by
  subst hnn
  exact fc_call (fun rv S _ nw P => k_asE rv S nw P) Fn hr tk hg hm hkp hb ha hdb he hpl
theorem fm_call {nn : Nat} (Fn : FnG X.prog X.w X.K X.mg X.base k f fd ps (spG X.K ps.length G)) (hr : RoomG k X.A) (tk : Takes X W) (hg : Gl X x) (hm : X.mg x = some (.ref f)) (hkp : PySem.W.keepIn X.K (.ref f) = true) (hb : Binds X.K fd ps [])
    (ha : PA X (e :: es) (tB X.K π W g)) (hdb : (x == ("__debug__" : Str)) = false := by decide) (he : starEach (e :: es) X.env = (false, eval e X.env) :: starEach es X.env := by rfl) (hpl : (backTo pos (starEach es X.env)).any (·.1) = false := by rfl) (hnn : ps.length = nn := by rfl) :
    PE X (.Call (.Name x p) (e :: es) [] pos) (tM X.K π W (callM nn G g)) := by
  subst hnn
  exact fc_call (fun rv S _ nw P => k_asM rv S nw P) Fn hr tk hg hm hkp hb ha hdb he hpl
theorem fe_call0 {nn : Nat} (Fn : FnG X.prog X.w X.K X.mg X.base k f fd ps (spG X.K ps.length G)) (hr : RoomG k X.A) (tk : Takes X W) (hg : Gl X x) (hm : X.mg x = some (.ref f)) (hkp : PySem.W.keepIn X.K (.ref f) = true) (hb : Binds X.K fd ps [])
    (hdb : (x == ("__debug__" : Str)) = false := by decide) (hnn : ps.length = nn := by rfl) : PE X (.Call (.Name x p) [] [] pos) (tE X.K π W (callE nn G nilB)) := by
  subst hnn
  exact fc_call0 (fun rv S _ nw P => k_asE rv S nw P) Fn hr tk hg hm hkp hb hdb
theorem fe_callK {nn mm : Nat} (Fn : FnG X.prog X.w X.K X.mg X.base k f fd ps (spG X.K ps.length G)) (hr : RoomG k X.A) (tk : Takes X W) (hg : Gl X x) (hm : X.mg x = some (.ref f)) (hkp : PySem.W.keepIn X.K (.ref f) = true) (hb : KB X.K fd ps ks n ord)
    (ha : PA X (e :: es) (tB X.K π W g)) (hw : PK X kws (tB X.K π W h)) (hall : (backToKw pos (keywordEach kws X.env)).all (·.1.isSome) = true := by rfl) (hks : (backToKw pos (keywordEach kws X.env)).filterMap (·.1) = ks := by rfl)
    (hdb : (x == ("__debug__" : Str)) = false := by decide) (he : starEach (e :: es) X.env = (false, eval e X.env) :: starEach es X.env := by rfl)
    (hpl : ((backTo pos (starEach (e :: es) X.env)).any (·.1) || (backToKw pos (keywordEach kws X.env)).any (·.1.isNone)) = false := by rfl) (hnn : ps.length = nn := by rfl) (hmm : ks.length = mm := by rfl) :
    PE X (.Call (.Name x p) (e :: es) kws pos) (tE X.K π W (callE nn G (kwB n mm ord g h))) := by
  subst hnn
  subst hmm
  exact fc_callK (fun rv S _ nw P => k_asE rv S nw P) Fn hr tk hg hm hkp hb ha hw hall hks hdb he hpl
theorem fe_callK0 {nn mm : Nat} (Fn : FnG X.prog X.w X.K X.mg X.base k f fd ps (spG X.K ps.length G)) (hr : RoomG k X.A) (tk : Takes X W) (hg : Gl X x) (hm : X.mg x = some (.ref f)) (hkp : PySem.W.keepIn X.K (.ref f) = true) (hb : KB X.K fd ps ks 0 ord)
    (hw : PK X kws (tB X.K π W h)) (hall : (backToKw pos (keywordEach kws X.env)).all (·.1.isSome) = true := by rfl) (hks : (backToKw pos (keywordEach kws X.env)).filterMap (·.1) = ks := by rfl)
    (hdb : (x == ("__debug__" : Str)) = false := by decide)
    (hpl : ((backTo pos (starEach [] X.env)).any (·.1) || (backToKw pos (keywordEach kws X.env)).any (·.1.isNone)) = false := by rfl) (hnn : ps.length = nn := by rfl) (hmm : ks.length = mm := by rfl) :
    PE X (.Call (.Name x p) [] kws pos) (tE X.K π W (callE nn G (kwB 0 mm ord nilB h))) := by
  subst hnn
  subst hmm
  exact fc_callK0 (fun rv S _ nw P => k_asE rv S nw P) Fn hr tk hg hm hkp hb hw hall hks hdb hpl

/-! ### f(g(..)), the argument a new thing -/
def callF {α : Type} (G : List Arg → RG) (f : Rho → R M) (kk : Res → Rho → R α) : Rho → R α := fun ρ => (f ρ).bind fun m ρ => match G [.io m] with
  | .ok r _ => kk r ρ
  | .exc C fs _ => .exc C fs ρ
  | .stuck => .stuck
abbrev callFE (G : List Arg → RG) (f : Rho → R M) : EF := callF G f asE
/-- the list of one value -/
def oneM (f : Rho → R M) : Rho → R (List M) := fun ρ => (f ρ).bind fun m ρ => .ok [m] ρ
theorem Sta.postF {c : Cfg} {F F' H H' : Hp} {K : PySem.W.Frag} {σ : L2.St} {ρ : Rho} {q : Addr} {outs : List M} (S : Sta K π c F H σ ρ) (f0 : c.H0 q = none) (nw : ∀ j, ¬ OwnAt σ ρ j q) (P : PostG K F H [q] outs F' H') : Sta K π c F' H' σ ρ := by
  have ne : ∀ {b : Addr}, b ≠ q → b ∉ [q] := fun h => by simpa using h
  refine ⟨fun b o e n1 n2 => ?_, fun b hb => ?_, S.f0.trans P.f, P.fh, fun b o e1 e2 => ?_, S.len, fun i s hs => ?_, S.dis⟩
  · exact P.keep b o (S.h0 b o e n1 n2) (ne fun z => by subst z; rw [f0] at e; cases e)
  · obtain ⟨o, ho⟩ := S.hio b hb
    by_cases z : b = q
    · subst z
      obtain ⟨m, hm⟩ := paired_mem P.outs (List.mem_singleton.mpr rfl)
      exact hm.here
    · exact ⟨o, P.keep b o ho (ne z)⟩
  · obtain ⟨o', e'⟩ := S.any e1
    exact P.nf b o' e' (S.nf b o e1 e2)
  · have z := S.rep i s hs
    cases s with
    | no => trivial
    | val d => obtain ⟨v, e1, r1⟩ := z; exact ⟨v, e1, r1.mono P.f⟩
    | own m =>
      obtain ⟨p, e1, e2, e3, e4⟩ := z
      obtain ⟨o, ho⟩ := e4.here
      have nq : p ≠ q := fun z => by subst z; exact nw i ⟨e1, m, .inl hs⟩
      exact ⟨p, e1, P.nf p o ho e2, e3, e4.mono P.f fun o' ho' => P.keep p o' ho' (ne nq)⟩
    | io m =>
      obtain ⟨e1, e2, e3, e4⟩ := z
      obtain ⟨o, ho⟩ := e4.here
      have nq : π i ≠ q := fun z => by rw [z] at e1; exact nw i ⟨e1, m, .inr hs⟩
      exact ⟨e1, P.nf _ o ho e2, e3, e4.mono P.f fun o' ho' => P.keep _ o' ho' (ne nq)⟩
theorem rd_callF {f : Rho → R M} {σ : L2.St} {H : Hp} {Q : VK} (t : tE X.K π W (callFE G f) σ H Q) : tCons (tM X.K π W f) tNil σ H fun vs H1 => spG X.K 1 G vs H1 Q fun cls d H' => W cls d σ H' := by
  obtain ⟨c, F, ρ, S, P⟩ := t
  refine po_bind S P fun v F1 H1 ρ1 m s1 S1 r1 P1 => ?_
  obtain ⟨q, rfl, n1, n2, n3, hm⟩ := r1
  refine ⟨F1, [.io m], S1.f, .io n1 hm .nil, rfl, by rw [ioA_io]; simp [ioA], ?_⟩
  have e : ioA [V.ref q] [Arg.io m] = [q] := rfl
  rw [e]
  cases eg : G [.io m] with
  | stuck => rw [eg] at P1; exact P1
  | exc C fs outs =>
    rw [eg] at P1
    exact fun dd fsV F' H' po hd hf hr => P1 dd fsV F' H' po.f (S1.postF n2 n3 po) hd hf hr
  | ok r outs =>
    rw [eg] at P1
    refine fun v F' H' po rv => k_asE rv (S1.postF n2 n3 po) (fun b hb => ?_) (Po.mono po.f P1)
    refine ⟨?_, fun j hj => ?_⟩
    · cases z : c.H0 b with
      | none => rfl
      | some o =>
        obtain ⟨o', e'⟩ := S1.any z
        rw [hb] at e'
        cases e'
    · obtain ⟨o, ho⟩ := (S1.ownAt hj).2.2
      rw [hb] at ho
      cases ho
theorem fe_callF {f' : Rho → R M} (Fn : FnG X.prog X.w X.K X.mg X.base k f fd ps (spG X.K ps.length G)) (hl : ps.length = 1) (hr : RoomG k X.A) (tk : Takes X W) (hg : Gl X x) (hm : X.mg x = some (.ref f)) (hkp : PySem.W.keepIn X.K (.ref f) = true) (hb : Binds X.K fd ps [])
    (ha : PE X e (tM X.K π W f')) (hdb : (x == ("__debug__" : Str)) = false := by decide) (he : starEach [e] X.env = (false, eval e X.env) :: starEach [] X.env := by rfl) (hpl : (backTo pos (starEach [] X.env)).any (·.1) = false := by rfl) :
    PE X (.Call (.Name x p) [e] [] pos) (tE X.K π W (callFE G f')) := by
  refine ⟨fun pins s σ H Q I h => ?_⟩
  refine wpAny_Call_Name_kw (ld_glob I hg hm ?_ hdb)
  refine PySem.W.callWith_K (h₀ := X.base) I.ok.mod.kin hkp (thn ((pa_cons ha pa_nil he).run pos pins s σ H _ I (rd_callF h)) fun us s1 ⟨vs, H1, I1, r, q⟩ => ⟨I1.kIn, ?_⟩) he hpl
  rw [← hl] at q
  have b := hb s1 us I1.kIn (by rw [List.append_nil, ← r.length]; exact Fn.len _ _ _ _ q)
  rw [List.append_nil] at b
  refine wpAny_call (codeAny_mono (run_fnG Fn hr tk b I1 r q) fun r s' hq => ?_)
  cases r with
  | error e => exact hq
  | ok fl =>
    cases fl with
    | ret u => exact hq
    | next => exact False.elim hq
    | brk => exact False.elim hq
    | cont => exact False.elim hq
end
/-- a def of the module that may be called by its name -/
structure Cal (P : Program) (w : World) (K : PySem.W.Frag) (mg : Str → Option Value) (base : Heap) (k : Nat) (x : Str) (ps : List Str) (kbs : List (List Str × Nat × List Nat)) (G : List Arg → RG) : Prop where
  ex : ∃ (f : Addr) (fd : FuncData), FnG P w K mg base k f fd ps (spG K ps.length G) ∧ mg x = some (.ref f) ∧ PySem.W.keepIn K (.ref f) = true ∧ Binds K fd ps [] ∧ ∀ q ∈ kbs, KB K fd ps q.1 q.2.1 q.2.2
theorem cal_of {P : Program} {w : World} {K : PySem.W.Frag} {mg : Str → Option Value} {base : Heap} {k : Nat} {x qual : Str} {st : Stmt} {f : Addr} {fd : FuncData} {ps : List Str} {kbs : List (List Str × Nat × List Nat)} {G : List Arg → RG} (Fd : Fun K x qual st f fd) (hm : mg x = some (.ref f))
    (h : FnG P w K mg base k f fd ps (spG K ps.length G))
    (hb : ∀ (kV doc pm : Value) (an : Option Addr) (cdv ct : Value) (us : List Value), us.length = ps.length → bindArgs (PySem.W.fnOf x qual (defArgs st) (defBody st) (defScope st) .none kV doc pm an cdv ct) ⟨us, []⟩ = pure (ps.zip us))
    (hk : ∀ q ∈ kbs, ∀ (kV doc pm : Value) (an : Option Addr) (cdv ct : Value) (us ws : List Value), us.length = q.2.1 → ws.length = q.1.length → bindArgs (PySem.W.fnOf x qual (defArgs st) (defBody st) (defScope st) .none kV doc pm an cdv ct) ⟨us, q.1.zip ws⟩ = pure (ps.zip (pick q.2.2 (us ++ ws)))) :
    Cal P w K mg base k x ps kbs G := by
  refine ⟨f, fd, h, hm, Fd.kp, Fd.binds hb, fun q hq => ?_⟩
  obtain ⟨oc, od, kV, doc, pm, an, cdv, ct, osl, rfl, lk, hcd⟩ := Fd.ex
  exact fun s us ws _ h1 h2 => .of_eq (hk q hq kV doc pm an cdv ct us ws h1 h2)
theorem kb_nil {P : List Str × Nat × List Nat → Prop} : ∀ q ∈ ([] : List (List Str × Nat × List Nat)), P q := fun q h => by cases h
theorem kb_cons {P : List Str × Nat × List Nat → Prop} {a : List Str × Nat × List Nat} {l : List (List Str × Nat × List Nat)} (h : P a) (t : ∀ q ∈ l, P q) : ∀ q ∈ a :: l, P q := fun q hq => by
  rcases List.mem_cons.mp hq with e | e
  · subst e; exact h
  · exact t q e
theorem rm_mono {j k : Nat} {A : Around} (r : RoomG k A) (h : Nat.ble j k = true) : RoomG j A := r.mono (Nat.le_of_ble_eq_true h)
/-! ### the tests of a comprehension that has none; what the top has read -/
def yesT : TF := fun ρ => .ok true ρ
theorem pts_non {X : Cx} {π : Nat → Addr} {W : WX} : PTs X [] (tT X.K π W yesT) := ⟨fun pins s σ H Q I ⟨c, F, ρ, S, P⟩ => pts_nil.run pins s σ H Q I (P true F H (Same.refl _) S rfl)⟩
theorem loose_int {q : Program} {lv : List (Str × PySem.W.WData)} {mg : Str → Option Value} {h : Heap} {x : Str} {i : Int} (X : PySem.W.XL q lv mg h) (hm : (x, PySem.W.WData.int i) ∈ lv) : ∃ t : Tok, mg x = some (.int i t) := by
  obtain ⟨v, h1, h2⟩ := X.2.val _ hm
  cases h2
  exact ⟨_, h1⟩
theorem takes_0 {X : Cx} : Takes X W0 := fun _ _ x => by
  obtain ⟨_, _, _, _, _, _, _, _, _, _, _, _, _, _, _, _, z⟩ := x
  exact z.elim
end FL
/-! FL13: how readings are worked out. -/
namespace FL
open PySem PySem.Spec PyProof.Rows L2

/-- what follows a part, not looked into -/
inductive Hold {α β : Type} (k : α → Rho → R β) : Type where
  | mk : Hold k
def R.bd {α β : Type} (k : α → Rho → R β) (_ : Hold k) (x : R α) : R β := x.bind k
theorem R.bind_bd {α β : Type} (x : R α) (k : α → Rho → R β) : x.bind k = R.bd k .mk x := rfl
theorem R.bd_ok {α β : Type} (k : α → Rho → R β) (h : Hold k) (a : α) (ρ : Rho) : R.bd k h (.ok a ρ) = k a ρ := rfl
def goG {α : Type} (x : RG) (as : List AA) (k : Res → Rho → R α) (ρ : Rho) : R α := match x with
  | .ok r outs => k r (putA as outs ρ)
  | .exc C fs outs => .exc C fs (putA as outs ρ)
  | .stuck => .stuck
theorem goG_congr {α : Type} {x y : RG} {as : List AA} {k : Res → Rho → R α} {ρ : Rho} (h : x = y) : goG x as k ρ = goG y as k ρ := by rw [h]
theorem goG_ok {α : Type} (r : Res) (outs : List M) (as : List AA) (k : Res → Rho → R α) (ρ : Rho) : goG (.ok r outs) as k ρ = k r (putA as outs ρ) := rfl
def argG {α : Type} (x : Option (List FL.Arg)) (G : List FL.Arg → RG) (as : List AA) (k : Res → Rho → R α) (ρ : Rho) : R α := match x with
  | some gs => goG (G gs) as k ρ
  | none => .stuck
theorem argG_congr {α : Type} {x y : Option (List FL.Arg)} {G : List FL.Arg → RG} {as : List AA} {k : Res → Rho → R α} {ρ : Rho} (h : x = y) : argG x G as k ρ = argG y G as k ρ := by rw [h]
theorem argG_some {α : Type} (gs : List FL.Arg) (G : List FL.Arg → RG) (as : List AA) (k : Res → Rho → R α) (ρ : Rho) : argG (some gs) G as k ρ = goG (G gs) as k ρ := rfl
theorem callG_eq {α : Type} (n : Nat) (G : List FL.Arg → RG) (f : BF) (k : Res → Rho → R α) (ρ : Rho) : callG n G f k ρ = (f ρ).bind fun as ρ => if okA n as = true then argG (toArgs ρ as) G as k ρ else .stuck := by
  unfold callG argG goG
  congr 1
def endR (as : List FL.Arg) (x : R Fl) : RG := match x with
  | .ok .nx ρ => endG as (.ok (.v .non)) ρ
  | .ok (.rt r) ρ => endG as (.ok r) ρ
  | .exc C fs ρ => endG as (.exc C fs) ρ
  | _ => .stuck
theorem bodyG_eq (l : Nat) (g : SF) (as : List FL.Arg) : bodyG l g as = endR as (g (rho0 l as)) := by
  unfold bodyG endR
  rfl
theorem endR_rt (as : List FL.Arg) (r : Res) (ρ : Rho) : endR as (.ok (.rt r) ρ) = endG as (.ok r) ρ := rfl
theorem endR_nx (as : List FL.Arg) (ρ : Rho) : endR as (.ok .nx ρ) = endG as (.ok (.v .non)) ρ := rfl
/-- behind a statement -/
def nxt (g : SF) (fl : Fl) (ρ : Rho) : R Fl := match fl with
  | .nx => g ρ
  | o => .ok o ρ
theorem seqS_eq (f g : SF) (ρ : Rho) : seqS f g ρ = (f ρ).bind (nxt g) := rfl
theorem nxt_nx (g : SF) (ρ : Rho) : nxt g .nx ρ = g ρ := rfl
theorem nxt_rt (g : SF) (r : Res) (ρ : Rho) : nxt g (.rt r) ρ = .ok (.rt r) ρ := rfl
theorem nxt_bk (g : SF) (ρ : Rho) : nxt g .bk ρ = .ok .bk ρ := rfl
theorem nxt_ct (g : SF) (ρ : Rho) : nxt g .ct ρ = .ok .ct ρ := rfl
/-- a branch -/
def brR {α : Type} (f g : Rho → R α) (b : Bool) (ρ : Rho) : R α := if b = true then f ρ else g ρ
theorem ifS_eq (t : TF) (f g : SF) (ρ : Rho) : ifS t f g ρ = (t ρ).bind (brR f g) := rfl
theorem ifE_eq (t : TF) (f g : EF) (ρ : Rho) : ifE t f g ρ = (t ρ).bind (brR f g) := rfl
theorem brR_t {α : Type} (f g : Rho → R α) (ρ : Rho) : brR f g true ρ = f ρ := rfl
theorem brR_f {α : Type} (f g : Rho → R α) (ρ : Rho) : brR f g false ρ = g ρ := rfl
theorem anT_eq (f g : TF) (ρ : Rho) : anT f g ρ = (f ρ).bind (brR g fun ρ => .ok false ρ) := rfl
theorem orT_eq (f g : TF) (ρ : Rho) : orT f g ρ = (f ρ).bind (brR (fun ρ => .ok true ρ) g) := rfl
theorem anE_eq (f g : EF) (ρ : Rho) : anE f g ρ = (tst f ρ).bind (brR g fun ρ => .ok (.bl false) ρ) := rfl
theorem orE_eq (f g : EF) (ρ : Rho) : orE f g ρ = (tst f ρ).bind (brR (fun ρ => .ok (.bl true) ρ) g) := rfl
theorem brR_dec {α : Type} (f g : Rho → R α) (p : Prop) [Decidable p] (ρ : Rho) : brR f g (decide p) ρ = if p then f ρ else g ρ := by
  unfold brR
  by_cases h : p <;> simp [h]
def isB : D → Option Bool
  | .bl b => some b
  | _ => none
theorem tst_eq (f : EF) (ρ : Rho) : tst f ρ = (f ρ).bind fun x ρ => R.of (isB x) ρ := by
  unfold tst isB
  rfl
theorem isB_bl (b : Bool) : isB (.bl b) = some b := rfl
theorem vr_some {i : Nat} {ρ : Rho} {d : D} (h : ρ[i]? = some (.val d)) : vr i ρ = .ok d ρ := by
  unfold vr
  rw [h]
theorem eqA_int (a b : Int) : eqA (.int a) (.int b) = some (.bl (decide (a = b))) := by
  have e : (a == b) = decide (a = b) := by
    by_cases h : a = b <;> simp [h]
  rw [← e]
  rfl
theorem neA_int (a b : Int) : neA (.int a) (.int b) = some (.bl (!decide (a = b))) := by
  have e : (a == b) = decide (a = b) := by
    by_cases h : a = b <;> simp [h]
  rw [← e]
  rfl
theorem eqA_str (a b : Str) : eqA (.str a) (.str b) = some (.bl (decide (a = b))) := rfl
theorem neA_str (a b : Str) : neA (.str a) (.str b) = some (.bl (!decide (a = b))) := rfl
theorem ltD_int (a b : Int) : ltD (.int a) (.int b) = some (.bl (decide (a < b))) := rfl
theorem leD_int (a b : Int) : leD (.int a) (.int b) = some (.bl (decide (a ≤ b))) := rfl
theorem gtD_int (a b : Int) : gtD (.int a) (.int b) = some (.bl (decide (b < a))) := rfl
theorem geD_int (a b : Int) : geD (.int a) (.int b) = some (.bl (decide (b ≤ a))) := rfl
theorem addD_int (a b : Int) : addD (.int a) (.int b) = some (.int (a + b)) := rfl
theorem subD_int (a b : Int) : subD (.int a) (.int b) = some (.int (a - b)) := rfl
theorem negD_int (a : Int) : negD (.int a) = some (.int (-a)) := rfl
theorem absC_int (a : Int) : absC [.int a] = some (.int (a.natAbs : Int)) := by
  show some (D.int (if a < 0 then -a else a)) = _
  congr 2
  split <;> omega
theorem intC_int (a : Int) : intC [.int a] = some (.int a) := rfl
theorem maxC_int (a b : Int) : maxC [.int a, .int b] = some (.int (max a b)) := by
  show some (D.int (if b > a then b else a)) = _
  congr 2
  split <;> omega
theorem minC_int (a b : Int) : minC [.int a, .int b] = some (.int (min a b)) := by
  show some (D.int (if b < a then b else a)) = _
  congr 2
  split <;> omega
theorem mulOk_l {a b : Int} (h : a.natAbs < 18446744073709551616) : mulOk a b = true := by
  unfold mulOk
  rw [decide_eq_true (show a.natAbs < 2 ^ 64 from h)]
  rfl
theorem mulOk_r {a b : Int} (h : b.natAbs < 18446744073709551616) : mulOk a b = true := by
  unfold mulOk
  rw [decide_eq_true (show b.natAbs < 2 ^ 64 from h), Bool.or_true]
  rfl
theorem mulD_l {a b : Int} (h : a.natAbs < 18446744073709551616) : mulD (.int a) (.int b) = some (.int (a * b)) := by
  simp only [mulD, mulOk_l h, if_true]
theorem mulD_r {a b : Int} (h : b.natAbs < 18446744073709551616) : mulD (.int a) (.int b) = some (.int (a * b)) := by
  simp only [mulD, mulOk_r h, if_true]
theorem modD_pos {a b : Int} (h : 0 < b) : modD (.int a) (.int b) = some (.int (a % b)) := by
  have h0 : b ≠ 0 := by omega
  simp only [modD, if_pos h0, Int.fmod_eq_emod_of_nonneg a (Int.le_of_lt h)]
theorem fdivD_pos {a b : Int} (h : 0 < b) (h2 : b < 1073741824) : fdivD (.int a) (.int b) = some (.int (a / b)) := by
  have h0 : (b ≠ 0 ∧ b.natAbs < 1073741824) ∨ (0 < b ∧ b.natAbs.log2 < 9000) := .inl ⟨by omega, by omega⟩
  simp only [fdivD, if_pos h0, Int.fdiv_eq_ediv_of_nonneg a (Int.le_of_lt h)]
theorem dmC_pos {a b : Int} (h : 0 < b) (h2 : b < 1073741824) : dmC [.int a, .int b] = some (.tup [.int (a / b), .int (a % b)]) := if_pos ⟨h, h2⟩
theorem lenC_lst (xs : List D) : lenC [.lst xs] = some (.int xs.length) := rfl
theorem lenC_tup (xs : List D) : lenC [.tup xs] = some (.int xs.length) := rfl
theorem lenC_scr (xs : List Int) : lenC [.scr xs] = some (.int xs.length) := rfl
theorem atI_nat {α : Type} {xs : List α} {i : Int} {a : α} (h0 : 0 ≤ i) (h : xs[i.toNat]? = some a) : atI xs i = some a := by
  unfold atI ixN
  have hl := (List.getElem?_eq_some_iff.mp h).1
  rw [if_pos h0, if_pos (by omega)]
  exact h
/-- one of a list -/
theorem ixD_lst {xs : List D} {i : Int} (h0 : 0 ≤ i) (h1 : i < xs.length) : ∃ d ∈ xs, ixD (.lst xs) (.int i) = some d := by
  have hl : i.toNat < xs.length := by omega
  refine ⟨xs[i.toNat], List.getElem_mem hl, ?_⟩
  show atI xs i = _
  exact atI_nat h0 (List.getElem?_eq_getElem hl)

/-! ### loops -/
theorem forL_cons (ks : List Nat) (g : GF) (b : SF) (d : D) (ds : List D) (ρ : Rho) : forL ks g b (d :: ds) ρ = bindO (g d ρ) fun ρ => (b ρ).bind (aftF ks (forL ks g b ds)) := rfl
/-- a loop that keeps an invariant, or returns -/
theorem forL_inv {ks : List Nat} {g : GF} {b : SF} (I : Nat → Rho → Prop) (Z : Res → Rho → Prop) : ∀ (ds : List D) (n : Nat) (ρ : Rho), I n ρ →
    (∀ (i : Nat) (d : D) (ρ : Rho), I (n + i) ρ → ds[i]? = some d → ∃ ρ1, g d ρ = some ρ1 ∧ ((∃ ρ2, (b ρ1 = .ok .nx ρ2 ∨ b ρ1 = .ok .ct ρ2) ∧ I (n + i + 1) (wipeR ks ρ2)) ∨ ∃ r ρ2, b ρ1 = .ok (.rt r) ρ2 ∧ Z r ρ2)) →
    (∃ ρ', forL ks g b ds ρ = .ok .nx ρ' ∧ I (n + ds.length) ρ') ∨ ∃ r ρ', forL ks g b ds ρ = .ok (.rt r) ρ' ∧ Z r ρ'
  | [], n, ρ, h, _ => .inl ⟨ρ, rfl, h⟩
  | d :: ds, n, ρ, h, st => by
    obtain ⟨ρ1, e1, z⟩ := st 0 d ρ h rfl
    rw [forL_cons, e1]
    show (∃ ρ', (b ρ1).bind _ = _ ∧ _) ∨ ∃ r ρ', (b ρ1).bind _ = _ ∧ _
    rcases z with ⟨ρ2, e2, hi⟩ | ⟨r, ρ2, e2, hz⟩
    · have key := forL_inv I Z ds (n + 1) (wipeR ks ρ2) hi fun i d' ρ' h1 h2 => by
        have := st (i + 1) d' ρ' (by rw [show n + (i + 1) = n + 1 + i by omega]; exact h1) (by simpa using h2)
        rw [show n + (i + 1) + 1 = n + 1 + i + 1 by omega] at this
        exact this
      rw [show n + (d :: ds).length = n + 1 + ds.length by rw [List.length_cons]; omega]
      rcases e2 with e2 | e2 <;> (rw [e2]; exact key)
    · rw [e2]
      exact .inr ⟨r, ρ2, rfl, hz⟩
/-- a loop without a return -/
theorem forL_nx {ks : List Nat} {g : GF} {b : SF} (I : Nat → Rho → Prop) (ds : List D) (ρ : Rho) (h : I 0 ρ)
    (st : ∀ (i : Nat) (d : D) (ρ : Rho), I i ρ → ds[i]? = some d → ∃ ρ1, g d ρ = some ρ1 ∧ ∃ ρ2, b ρ1 = .ok .nx ρ2 ∧ I (i + 1) (wipeR ks ρ2)) : ∃ ρ', forL ks g b ds ρ = .ok .nx ρ' ∧ I ds.length ρ' := by
  rcases forL_inv (ks := ks) (g := g) (b := b) I (fun _ _ => False) ds 0 ρ h fun i d ρ h1 h2 => by
    rw [Nat.zero_add] at h1 ⊢
    obtain ⟨ρ1, e1, ρ2, e2, hi⟩ := st i d ρ h1 h2
    exact ⟨ρ1, e1, .inl ⟨ρ2, .inl e2, hi⟩⟩ with ⟨ρ', e, hi⟩ | ⟨_, _, _, z⟩
  · rw [Nat.zero_add] at hi
    exact ⟨ρ', e, hi⟩
  · exact z.elim
theorem forS_eq (ks : List Nat) (it : IF) (g : GF) (b : SF) (ρ : Rho) : forS ks it g b ρ = (it ρ).bind fun ds ρ => forL ks g b ds ρ := rfl
/-- a comprehension whose turns keep the state (but for its own names) -/
theorem cmpL_of {ks : List Nat} {g : GF} {t : TF} {f : EF} (I : Nat → Rho → Prop) (X : D → D → Prop) : ∀ (ds : List D) (n : Nat) (acc : List D) (ρ : Rho), acc.length + ds.length ≤ 100000 → I n ρ →
    (∀ (i : Nat) (d : D) (ρ : Rho), I (n + i) ρ → ds[i]? = some d → ∃ ρ1, g d ρ = some ρ1 ∧ ((∃ ρ2, t ρ1 = .ok false ρ2 ∧ I (n + i + 1) (wipeR ks ρ2)) ∨ ∃ ρ2 x ρ3, t ρ1 = .ok true ρ2 ∧ f ρ2 = .ok x ρ3 ∧ X d x ∧ I (n + i + 1) (wipeR ks ρ3))) →
    ∃ ys ρ', cmpL ks g t f acc ds ρ = .ok (.lst (acc ++ ys)) ρ' ∧ (∀ y ∈ ys, ∃ d ∈ ds, X d y) ∧ I (n + ds.length) ρ'
  | [], n, acc, ρ, hl, h, _ => ⟨[], ρ, by rw [List.append_nil]; rfl, (fun y hy => by simp at hy), h⟩
  | d :: ds, n, acc, ρ, hl, h, st => by
    rw [List.length_cons] at hl
    obtain ⟨ρ1, e1, z⟩ := st 0 d ρ h rfl
    have next : ∀ (acc' : List D) (ρ' : Rho), acc'.length + ds.length ≤ 100000 → I (n + 1) ρ' → ∃ ys ρ2, cmpL ks g t f acc' ds ρ' = .ok (.lst (acc' ++ ys)) ρ2 ∧ (∀ y ∈ ys, ∃ d ∈ ds, X d y) ∧ I (n + 1 + ds.length) ρ2 := fun acc' ρ' h1 h2 =>
      cmpL_of I X ds (n + 1) acc' ρ' h1 h2 fun i d' ρ' h3 h4 => by
        have := st (i + 1) d' ρ' (by rw [show n + (i + 1) = n + 1 + i by omega]; exact h3) (by simpa using h4)
        rw [show n + (i + 1) + 1 = n + 1 + i + 1 by omega] at this
        exact this
    rw [show n + (d :: ds).length = n + 1 + ds.length by rw [List.length_cons]; omega]
    unfold cmpL
    rw [e1]
    rcases z with ⟨ρ2, e2, hi⟩ | ⟨ρ2, x, ρ3, e2, e3, hx, hi⟩
    · obtain ⟨ys, ρ', e, hy, h'⟩ := next acc _ (by omega) hi
      refine ⟨ys, ρ', ?_, fun y hy' => ?_, h'⟩
      · show (noX (t ρ1)).bind _ = _
        rw [e2]
        exact e
      · obtain ⟨d', hd, hx⟩ := hy y hy'
        exact ⟨d', List.mem_cons_of_mem _ hd, hx⟩
    · obtain ⟨ys, ρ', e, hy, h'⟩ := next (acc ++ [x]) _ (by rw [List.length_append, List.length_singleton]; omega) hi
      refine ⟨x :: ys, ρ', ?_, fun y hy' => ?_, h'⟩
      · show (noX (t ρ1)).bind _ = _
        rw [e2]
        show (noX (f ρ2)).bind _ = _
        rw [e3]
        show (if small (acc.length + 1) = true then _ else _) = _
        rw [if_pos (show small (acc.length + 1) = true from decide_eq_true (by omega)), e]
        simp
      · rcases List.mem_cons.mp hy' with e | hy'
        · subst e
          exact ⟨d, List.mem_cons_self, hx⟩
        · obtain ⟨d', hd, hx⟩ := hy y hy'
          exact ⟨d', List.mem_cons_of_mem _ hd, hx⟩
/-- a comprehension whose turns keep the state: filter and map -/
theorem cmpL_pure {ks : List Nat} {g : GF} {t : TF} {f : EF} (I : Rho → Prop) (tb : D → Bool) (fx : D → D) : ∀ (ds acc : List D) (ρ : Rho), acc.length + ds.length ≤ 100000 → I ρ →
    (∀ d ∈ ds, ∀ ρ, I ρ → ∃ ρ1 ρ2, g d ρ = some ρ1 ∧ t ρ1 = .ok (tb d) ρ2 ∧ (tb d = false → I (wipeR ks ρ2)) ∧ (tb d = true → ∃ ρ3, f ρ2 = .ok (fx d) ρ3 ∧ I (wipeR ks ρ3))) →
    ∃ ρ', cmpL ks g t f acc ds ρ = .ok (.lst (acc ++ (ds.filter tb).map fx)) ρ' ∧ I ρ'
  | [], acc, ρ, hl, h, _ => ⟨ρ, by rw [List.filter_nil, List.map_nil, List.append_nil]; rfl, h⟩
  | d :: ds, acc, ρ, hl, h, st => by
    rw [List.length_cons] at hl
    obtain ⟨ρ1, ρ2, e1, e2, h1, h2⟩ := st d List.mem_cons_self ρ h
    unfold cmpL
    rw [e1]
    cases hb : tb d with
    | false =>
      obtain ⟨ρ', e, h'⟩ := cmpL_pure I tb fx ds acc _ (by omega) (h1 hb) fun d' hd => st d' (List.mem_cons_of_mem _ hd)
      refine ⟨ρ', ?_, h'⟩
      show (noX (t ρ1)).bind _ = _
      rw [e2, hb, List.filter_cons, hb, if_neg Bool.false_ne_true]
      exact e
    | true =>
      obtain ⟨ρ3, e3, h3⟩ := h2 hb
      obtain ⟨ρ', e, h'⟩ := cmpL_pure I tb fx ds (acc ++ [fx d]) _ (by rw [List.length_append, List.length_singleton]; omega) h3 fun d' hd => st d' (List.mem_cons_of_mem _ hd)
      refine ⟨ρ', ?_, h'⟩
      show (noX (t ρ1)).bind _ = _
      rw [e2, hb, List.filter_cons, hb, if_pos rfl, List.map_cons]
      show (noX (f ρ2)).bind _ = _
      rw [e3]
      show (if small (acc.length + 1) = true then _ else _) = _
      rw [if_pos (show small (acc.length + 1) = true from decide_eq_true (by omega)), e]
      simp
theorem rgOk_of {i : Int} (h : -4000000000000000000 ≤ i) (h' : i ≤ 4000000000000000000) : rgOk i = true := by
  unfold rgOk
  rw [decide_eq_true (show -(2 ^ 62) ≤ i by omega), decide_eq_true (show i < 2 ^ 62 by omega)]
  rfl
theorem rangeL_mem : ∀ (n : Nat) (lo : Int) (d : D), d ∈ rangeL lo n ↔ ∃ i : Int, d = .int i ∧ lo ≤ i ∧ i < lo + n
  | 0, lo, d => by
    rw [rangeL]
    constructor
    · intro h
      simp at h
    · rintro ⟨i, _, h1, h2⟩
      omega
  | n + 1, lo, d => by
    rw [rangeL, List.mem_cons, rangeL_mem n]
    constructor
    · rintro (rfl | ⟨i, rfl, h1, h2⟩)
      · exact ⟨lo, rfl, by omega, by omega⟩
      · exact ⟨i, rfl, by omega, by omega⟩
    · rintro ⟨i, rfl, h1, h2⟩
      by_cases h : i = lo
      · exact .inl (by rw [h])
      · exact .inr ⟨i, rfl, by omega, by omega⟩
theorem mulD_w {a b : Int} (ha : a.natAbs < 2 ^ 200) (hb : b.natAbs < 2 ^ 200) : mulD (.int a) (.int b) = some (.int (a * b)) := by
  have l : ∀ x : Nat, x < 2 ^ 200 → x.log2 < 200 := fun x h => by
    by_cases h0 : x = 0
    · subst h0
      decide
    · exact (Nat.log2_lt h0).mpr h
  have h : mulOk a b = true := by
    unfold mulOk
    have h1 := l _ ha
    have h2 := l _ hb
    rw [decide_eq_true (show a.natAbs.log2 + b.natAbs.log2 < 1000000 by omega), Bool.or_true]
  simp only [mulD, h, if_true]
theorem inA_int2 (i a b : Int) : inA (.int i) (.tup [.int a, .int b]) = some (.bl (decide (i = a) || decide (i = b))) := by
  have e : ∀ x y : Int, (y == x) = decide (x = y) := fun x y => by
    rw [Bool.eq_iff_iff, beq_iff_eq, decide_eq_true_eq]
    exact eq_comm
  show some (D.bl ((a == i) || ((b == i) || false))) = _
  rw [e, e, Bool.or_false]
theorem ninA_int2 (i a b : Int) : ninA (.int i) (.lst [.int a, .int b]) = some (.bl (!(decide (i = a) || decide (i = b)))) := by
  have e : ∀ x y : Int, (y == x) = decide (x = y) := fun x y => by
    rw [Bool.eq_iff_iff, beq_iff_eq, decide_eq_true_eq]
    exact eq_comm
  show some (D.bl (!((a == i) || ((b == i) || false)))) = _
  rw [e, e, Bool.or_false]
end FL
namespace Wk
open PySem PySem.Spec PyProof.Rows L2 FL
def top (i : Nat) : Stmt := PySem.Challenge.pw_lenspairs_k70_whole_alike_judged.main.body.getD i (.Pass ⟨0, 0, 0, 0⟩)
abbrev s__law_drip : Stmt := top 33
abbrev s__law_any : Stmt := top 34
abbrev s__law_gcd : Stmt := top 35
abbrev s__law_some_pair : Stmt := top 37
abbrev s__law_mate : Stmt := top 38
abbrev s__law_odd : Stmt := top 39
abbrev s_is_integer : Stmt := top 3
abbrev s_common : Stmt := top 5
abbrev s_is_pair : Stmt := top 9
abbrev s_are_same_size : Stmt := top 16
abbrev s_is_claim : Stmt := top 29
abbrev s_is_sign : Stmt := top 15
abbrev s_shows_alike : Stmt := top 23
abbrev s_accepts : Stmt := top 30
abbrev s__law_due : Stmt := top 40
abbrev s__law_right : Stmt := top 41
abbrev s__law_spring : Stmt := top 32
abbrev s_law : Stmt := top 42
/-- what the module holds beside its defs -/
structure Txt (K : PySem.W.Frag) (mg : Str → Option Value) : Prop where
  b_abs : mg "abs" = none
  b_all : mg "all" = none
  b_bool : mg "bool" = none
  b_divmod : mg "divmod" = none
  b_int : mg "int" = none
  b_isinstance : mg "isinstance" = none
  b_len : mg "len" = none
  b_max : mg "max" = none
  b_min : mg "min" = none
  b_range : mg "range" = none
  b_repr : mg "repr" = none
  b_str : mg "str" = none
  b_tuple : mg "tuple" = none
  c_OF_PAIRS : ∃ a : Addr, mg "OF_PAIRS" = some (.ref a) ∧ ∀ F : Hp, SqT K F a [.str "alike", .str "for loops", .str "not for loops"]
  c_OF_STRINGS : ∃ a : Addr, mg "OF_STRINGS" = some (.ref a) ∧ ∀ F : Hp, SqT K F a [.str "led", .str "apart"]
noncomputable section
def g__law_drip_4 : SF := (retS (op2 modD (opC intC (cnsA (op2 fdivD (ixM 0 (cst (.int 1))) (cst (.int 3079))) nilA)) (vr 1)))
def g__law_drip_3 : SF := (seqS (subS 0 (op2 modD (opC intC (cnsA (op2 addD (op2 mulD (ixM 0 (cst (.int 1))) (cst (.int 39119))) (vr 3)) nilA)) (cst (.int 2147483543))) (cst (.int 1))) g__law_drip_4)
def g__law_drip_2 : SF := (seqS (setS 3 (op2 addD (op2 mulD (cst (.int 6271)) (ixM 0 (cst (.int 2)))) (op2 mulD (op2 mulD (cst (.int 5)) (ixM 0 (cst (.int 2)))) (ixM 0 (cst (.int 2)))))) g__law_drip_3)
def g__law_drip_1 : SF := (seqS (ifS (tst (op2 gtD (ixM 0 (cst (.int 0))) (cst (.int 0)))) (seqS (asgS (opC dmC (cnsA (ixM 0 (cst (.int 0))) (cnsA (vr 1) nilA))) (tupG 2 (cnsG (subGO 0 (cst (.int 0))) (cnsG (nmG 2) nilG)))) (retS (vr 2))) nxS) g__law_drip_2)
def g__law_drip : SF := (seqS (subS 0 (op2 addD (ixM 0 (cst (.int 2))) (cst (.int 1))) (cst (.int 2))) g__law_drip_1)
def G__law_drip : List FL.Arg → RG := bodyG 4 g__law_drip
def g__law_any : SF := (retS (op2 ixD (vr 1) (callE 2 G__law_drip (slB 0 (cnsB (opC lenC (cnsA (vr 1) nilA)) nilB)))))
def G__law_any : List FL.Arg → RG := bodyG 2 g__law_any
def b__law_gcd_1 : SF := (ifS (tst (op2 neA (vr 1) (cst (.int 0)))) (parS 0 1 (cnsA (vr 1) (cnsA (op2 modD (opC intC (cnsA (vr 0) nilA)) (vr 1)) nilA))) nxS)
def g__law_gcd : SF := (seqS (forS [] (rng1 (cnsA (cst (.int 600)) nilA)) (nmG 2) b__law_gcd_1) (retS (opC absC (cnsA (vr 0) nilA))))
def G__law_gcd : List FL.Arg → RG := bodyG 3 g__law_gcd
def g__law_some_pair : SF := (seqS (ifS (tst (op2 eqA (callE 2 G__law_drip (slB 0 (cnsB (cst (.int 9)) nilB))) (cst (.int 0)))) (retS (callE 2 G__law_any (slB 0 (cnsB (frz (dLst (cnsA (dTup (cnsA (cst (.int 1)) (cnsA (cst (.int 0)) nilA))) (cnsA (dTup (cnsA (cst (.int 0)) (cnsA (cst (.int 1)) nilA))) nilA)))) nilB)))) nxS) (seqS (setS 2 (op2 addD (cst (.int 2)) (callE 2 G__law_drip (slB 0 (cnsB (op2 subD (vr 1) (cst (.int 1))) nilB))))) (retS (callE 2 G__law_any (slB 0 (cnsB (frz (cmpM [3] (rng2 (cnsA (cst (.int 1)) (cnsA (vr 2) nilA))) (nmG 3) (tst (op2 eqA (callE 2 G__law_gcd (cnsB (vr 2) (cnsB (vr 3) nilB))) (cst (.int 1)))) (dTup (cnsA (vr 2) (cnsA (vr 3) nilA))))) nilB))))))
def G__law_some_pair : List FL.Arg → RG := bodyG 4 g__law_some_pair
def g__law_mate : SF := (seqS (ifS (tst (op2 ltD (op2 ixD (vr 1) (cst (.int 0))) (cst (.int 2)))) (retS (vr 1)) nxS) (retS (callE 2 G__law_any (slB 0 (cnsB (frz (cmpM [2] (rng2 (cnsA (cst (.int 1)) (cnsA (op2 ixD (vr 1) (cst (.int 0))) nilA))) (nmG 2) (tst (op2 eqA (callE 2 G__law_gcd (cnsB (op2 ixD (vr 1) (cst (.int 0))) (cnsB (vr 2) nilB))) (cst (.int 1)))) (dTup (cnsA (op2 ixD (vr 1) (cst (.int 0))) (cnsA (vr 2) nilA))))) nilB)))))
def G__law_mate : List FL.Arg → RG := bodyG 3 g__law_mate
def g__law_odd : SF := (seqS (setS 1 (frz (dLst (cnsA (cst .non) (cnsA (cst (.bl true)) (cnsA (cst (.bl false)) (cnsA (cst (.int 0)) (cnsA (cst (.int 2)) (cnsA (op1 negD (cst (.int 2))) (cnsA (cst (.str "")) (cnsA (cst (.str "1")) (cnsA (dTup nilA) (cnsA (dTup (cnsA (cst (.int 1)) nilA)) (cnsA (frz (dLst (cnsA (cst (.int 1)) nilA))) (cnsA (cst (.dct [])) (cnsA (dTup (cnsA (cst (.int 1)) (cnsA (cst (.int 1)) nilA))) (cnsA (op2 powD (cst (.int 10)) (cst (.int 30))) (cnsA (dTup (cnsA (dTup (cnsA (cst (.int 1)) (cnsA (cst (.int 1)) nilA))) nilA)) (cnsA (dTup (cnsA (op1 negD (cst (.int 1))) nilA)) (cnsA (cst (.str "led")) nilA)))))))))))))))))))) (retS (callE 2 G__law_any (slB 0 (cnsB (vr 1) nilB)))))
def G__law_odd : List FL.Arg → RG := bodyG 2 g__law_odd
def g_is_integer : SF := (retS (anE (op1 (isiD .int) (vr 0)) (blE (noT (tst (op1 (isiD .bl) (vr 0)))))))
def G_is_integer : List FL.Arg → RG := bodyG 1 g_is_integer
def b_common_1 : SF := (parS 0 1 (cnsA (vr 1) (cnsA (op2 modD (vr 0) (vr 1)) nilA)))
def g_common : SF := (seqS (whS [] (tst (op2 gtD (vr 1) (cst (.int 0)))) b_common_1) (retS (vr 0)))
def G_common : List FL.Arg → RG := bodyG 2 g_common
def g_is_pair : SF := (seqS (ifS (orT (noT (tst (op1 (isiD .tup) (vr 0)))) (orT (tst (op2 neA (opC lenC (cnsA (vr 0) nilA)) (cst (.int 2)))) (orT (noT (tst (callE 1 G_is_integer (cnsB (op2 ixD (vr 0) (cst (.int 0))) nilB)))) (noT (tst (callE 1 G_is_integer (cnsB (op2 ixD (vr 0) (cst (.int 1))) nilB))))))) (retS (cst (.bl false))) nxS) (seqS (ifS (tst (op2 eqA (op2 ixD (vr 0) (cst (.int 0))) (cst (.int 0)))) (retS (op2 eqA (op2 ixD (vr 0) (cst (.int 1))) (cst (.int 1)))) nxS) (retS (anE (chn leD ltD (cst (.int 0)) (op2 ixD (vr 0) (cst (.int 1))) (op2 ixD (vr 0) (cst (.int 0)))) (op2 eqA (callE 2 G_common (cnsB (op2 ixD (vr 0) (cst (.int 0))) (cnsB (op2 ixD (vr 0) (cst (.int 1))) nilB))) (cst (.int 1)))))))
def G_is_pair : List FL.Arg → RG := bodyG 1 g_is_pair
def g_are_same_size : SF := (retS (anE (callE 1 G_is_pair (cnsB (vr 0) nilB)) (anE (callE 1 G_is_pair (cnsB (vr 1) nilB)) (op2 eqA (op2 ixD (vr 0) (cst (.int 0))) (op2 ixD (vr 1) (cst (.int 0)))))))
def G_are_same_size : List FL.Arg → RG := bodyG 2 g_are_same_size
def g_is_claim : SF := (seqS (ifS (orT (noT (tst (op1 (isiD .tup) (vr 0)))) (orT (tst (op2 neA (opC lenC (cnsA (vr 0) nilA)) (cst (.int 3)))) (noT (tst (op1 (isiD .str) (op2 ixD (vr 0) (cst (.int 0)))))))) (retS (cst (.bl false))) nxS) (seqS (ifS (tst (op2 inA (op2 ixD (vr 0) (cst (.int 0))) (cst (.tup [.str "led", .str "apart"])))) stS nxS) (retS (anE (op2 inA (op2 ixD (vr 0) (cst (.int 0))) (cst (.tup [.str "alike", .str "for loops", .str "not for loops"]))) (callE 2 G_are_same_size (cnsB (op2 ixD (vr 0) (cst (.int 1))) (cnsB (op2 ixD (vr 0) (cst (.int 2))) nilB)))))))
def G_is_claim : List FL.Arg → RG := bodyG 1 g_is_claim
def g_is_sign : SF := (retS (anE (callE 1 G_is_integer (cnsB (vr 0) nilB)) (op2 inA (vr 0) (dTup (cnsA (cst (.int 1)) (cnsA (op1 negD (cst (.int 1))) nilA))))))
def G_is_sign : List FL.Arg → RG := bodyG 1 g_is_sign
def g_shows_alike : SF := (seqS (setS 3 (op2 ixD (vr 0) (cst (.int 0)))) (seqS (ifS (orT (noT (tst (callE 1 G_is_sign (cnsB (vr 2) nilB)))) (tst (op2 ltD (vr 3) (cst (.int 2))))) (retS (anE (callE 1 G_is_sign (cnsB (vr 2) nilB)) (anE (op2 eqA (vr 2) (cst (.int 1))) (op2 eqA (vr 0) (vr 1))))) nxS) (retS (orE (op2 eqA (op2 modD (op2 subD (op2 mulD (vr 2) (op2 ixD (vr 0) (cst (.int 1)))) (op2 ixD (vr 1) (cst (.int 1)))) (vr 3)) (cst (.int 0))) (op2 eqA (op2 modD (op2 subD (op2 mulD (op2 ixD (vr 0) (cst (.int 1))) (op2 ixD (vr 1) (cst (.int 1)))) (vr 2)) (vr 3)) (cst (.int 0)))))))
def G_shows_alike : List FL.Arg → RG := bodyG 4 g_shows_alike
def g_accepts_6 : SF := stS
def g_accepts_5 : SF := (seqS (ifS (tst (op2 eqA (vr 2) (cst (.str "for loops")))) stS nxS) g_accepts_6)
def g_accepts_4 : SF := (seqS (ifS (tst (op2 eqA (vr 2) (cst (.str "alike")))) (retS (callE 3 G_shows_alike (cnsB (vr 3) (cnsB (vr 4) (cnsB (vr 1) nilB))))) nxS) g_accepts_5)
def g_accepts_3 : SF := (seqS (ifS (tst (op2 eqA (vr 2) (cst (.str "apart")))) stS nxS) g_accepts_4)
def g_accepts_2 : SF := (seqS (ifS (tst (op2 eqA (vr 2) (cst (.str "led")))) stS nxS) g_accepts_3)
def g_accepts_1 : SF := (seqS (asgS (vr 0) (tupG 3 (cnsG (nmG 2) (cnsG (nmG 3) (cnsG (nmG 4) nilG))))) g_accepts_2)
def g_accepts : SF := (seqS (ifS (noT (tst (callE 1 G_is_claim (cnsB (vr 0) nilB)))) (retS (cst (.bl false))) nxS) g_accepts_1)
def G_accepts : List FL.Arg → RG := bodyG 5 g_accepts
def g__law_due : SF := (seqS (ifS (orT (tst (op1 (isiD .bl) (vr 2))) (orT (tst (op2 ninA (vr 2) (frz (dLst (cnsA (cst (.int 1)) (cnsA (op1 negD (cst (.int 1))) nilA)))))) (tst (op2 neA (op2 ixD (vr 0) (cst (.int 0))) (op2 ixD (vr 1) (cst (.int 0))))))) (retS (cst (.bl false))) nxS) (seqS (ifS (tst (op2 ltD (op2 ixD (vr 0) (cst (.int 0))) (cst (.int 2)))) (retS (op2 eqA (vr 2) (cst (.int 1)))) nxS) (retS (orE (op2 eqA (op2 modD (opC intC (cnsA (op2 subD (op2 ixD (vr 1) (cst (.int 1))) (op2 mulD (vr 2) (op2 ixD (vr 0) (cst (.int 1))))) nilA)) (op2 ixD (vr 0) (cst (.int 0)))) (cst (.int 0))) (op2 eqA (op2 modD (opC intC (cnsA (op2 subD (op2 mulD (op2 ixD (vr 0) (cst (.int 1))) (op2 ixD (vr 1) (cst (.int 1)))) (vr 2)) nilA)) (op2 ixD (vr 0) (cst (.int 0)))) (cst (.int 0)))))))
def G__law_due : List FL.Arg → RG := bodyG 3 g__law_due
def b__law_right_1_6 : SF := (frzS 6 (ifS (tst (op2 neA (opC reprC (cnsA (vr 6) nilA)) (opC reprC (cnsA (op2 mulD (frz (dLst (cnsA (callE 3 G__law_due (cnsB (vr 2) (cnsB (vr 3) (cnsB (vr 5) nilB)))) nilA))) (cst (.int 2))) nilA)))) (retS (cst (.bl false))) nxS))
def b__law_right_1_5 : SF := (seqS (mutS 6 (callE 2 G_accepts (kwB 0 2 [1, 0] nilB (cnsB (vr 5) (cnsB (dTup (cnsA (cst (.str "alike")) (cnsA (vr 2) (cnsA (vr 3) nilA)))) nilB)))) appO) b__law_right_1_6)
def b__law_right_1_4 : SF := (seqS (setM 6 (dLst (cnsA (callE 2 G_accepts (cnsB (dTup (cnsA (cst (.str "alike")) (cnsA (vr 2) (cnsA (vr 3) nilA)))) (cnsB (vr 5) nilB))) nilA))) b__law_right_1_5)
def b__law_right_1_3 : SF := (seqS (setS 5 (callE 2 G__law_any (slB 0 (cnsB (frz (dLst (cnsA (cst (.int 1)) (cnsA (op1 negD (cst (.int 1))) (cnsA (cst (.int 1)) (cnsA (op1 negD (cst (.int 1))) (cnsA (cst (.int 1)) (cnsA (op1 negD (cst (.int 1))) (cnsA (callE 1 G__law_odd (slB 0 nilB)) nilA))))))))) nilB)))) b__law_right_1_4)
def b__law_right_1_2 : SF := (seqS (ifS (tst (op2 eqA (callE 2 G__law_drip (slB 0 (cnsB (cst (.int 5)) nilB))) (cst (.int 0)))) (seqS (setS 4 (op2 addD (op2 powD (cst (.int 10)) (cst (.int 30))) (op2 mulD (cst (.int 57)) (callE 2 G__law_drip (slB 0 (cnsB (cst (.int 2)) nilB)))))) (parS 2 3 (cnsA (dTup (cnsA (vr 4) (cnsA (op2 subD (vr 4) (cst (.int 1))) nilA))) (cnsA (callE 2 G__law_any (slB 0 (cnsB (frz (dLst (cnsA (dTup (cnsA (vr 4) (cnsA (cst (.int 1)) nilA))) (cnsA (dTup (cnsA (vr 4) (cnsA (op2 subD (vr 4) (cst (.int 1))) nilA))) nilA)))) nilB))) nilA)))) nxS) b__law_right_1_3)
def b__law_right_1_1 : SF := (seqS (setS 3 (ifE (tst (op2 gtD (callE 2 G__law_drip (slB 0 (cnsB (cst (.int 6)) nilB))) (cst (.int 0)))) (callE 2 G__law_mate (slB 0 (cnsB (vr 2) nilB))) (callE 2 G__law_some_pair (slB 0 (cnsB (cst (.int 40)) nilB))))) b__law_right_1_2)
def b__law_right_1 : SF := (seqS (setS 2 (callE 2 G__law_some_pair (slB 0 (cnsB (cst (.int 40)) nilB)))) b__law_right_1_1)
def g__law_right : SF := (seqS (forS [6] (rng1 (cnsA (cst (.int 14)) nilA)) (nmG 1) b__law_right_1) (retS (cst (.bl true))))
def G__law_right : List FL.Arg → RG := bodyG 7 g__law_right
def b__law_spring_1 : SF := (setS 2 (op2 modD (opC intC (cnsA (op2 addD (op2 addD (op2 mulD (vr 2) (cst (.int 48679))) (op2 mulD (opC intC (cnsA (vr 3) nilA)) (cst (.int 13)))) (cst (.int 101))) nilA)) (cst (.int 2147483549))))
def g__law_spring_4 : SF := (retM (dLst (cnsA (vr 5) (cnsA (op2 modD (opC intC (cnsA (op2 addD (op2 mulD (vr 2) (cst (.int 7))) (vr 4)) nilA)) (cst (.int 2147483543))) (cnsA (cst (.int 0)) nilA)))))
def g__law_spring_3 : SF := (seqS (setS 5 (ifE (orT (tst (op2 ltD (vr 4) (cst (.int 0)))) (tst (op2 geD (vr 4) (op2 powD (cst (.int 10)) (cst (.int 18)))))) (opC absC (cnsA (vr 4) nilA)) (cst (.int 0)))) g__law_spring_4)
def g__law_spring_2 : SF := (seqS (setS 4 (ifE (tst (op2 ltD (vr 1) (opC lenC (cnsA (vr 0) nilA)))) (opC intC (cnsA (op2 ixD (vr 0) (vr 1)) nilA)) (op2 addD (op2 mulD (cst (.int 17)) (vr 1)) (cst (.int 3))))) g__law_spring_3)
def g__law_spring_1 : SF := (seqS (forS [] (seqI (slF (vr 0) noO (smO (cst (.int 61))))) (nmG 3) b__law_spring_1) g__law_spring_2)
def g__law_spring : SF := (seqS (setS 2 (op2 addD (cst (.int 2236067)) (op2 mulD (cst (.int 141421)) (vr 1)))) g__law_spring_1)
def G__law_spring : List FL.Arg → RG := bodyG 6 g__law_spring
def g_law : SF := (retS (opC allC (cnsA (frz (cmpM [1] (rng1 (cnsA (opC maxC (cnsA (cst (.int 2)) (cnsA (opC minC (cnsA (opC lenC (cnsA (vr 0) nilA)) (cnsA (cst (.int 5)) nilA))) nilA))) nilA)) (nmG 1) yesT (callFE G__law_right (callM 2 G__law_spring (cnsB (vr 0) (cnsB (vr 1) nilB)))))) nilA)))
def G_law : List FL.Arg → RG := bodyG 2 g_law
end
section
variable {P : Program} {w : World} {K : PySem.W.Frag} {mg : Str → Option Value} {base : Heap}
theorem sc__law_drip : FnScope ["_law_spring_here", "_law_size", "_law_digit", "_law_more"] ["_law_spring_here", "_law_size"] (defScope s__law_drip) := ⟨rfl, rfl, rfl, by decide +kernel, rfl, by decide +kernel, by decide +kernel⟩
theorem fn__law_drip {f : Addr} {fd : FuncData} (T : Txt K mg) (Fd : Fun K "_law_drip" "_law_drip" s__law_drip f fd)  : FnG P w K mg base 1 f fd ["_law_spring_here", "_law_size"] (spG K 2 G__law_drip) := by
  have z := fnG (P := P) (w := w) (mg := mg) (base := base) (k := 0) (N := ["_law_spring_here", "_law_size", "_law_digit", "_law_more"]) (ps := ["_law_spring_here", "_law_size"]) (g := g__law_drip) Fd sc__law_drip fun cdv A outer s H E π W hr tk hp => by exact (fss_cons (fs_sub (pv 0) (fe_bin o_add q_add (fe_ixM (pv 0) fe_int (fun _ _ => rfl)) fe_int) fe_int) (fss_cons (fs_if (ft_cmp op_gt q_cmp (fe_ixM (pv 0) fe_int (fun _ _ => rfl)) fe_int (by rfl)) (fss_cons (fs_asg (fe_callB q_dm call_divmod rfl T.b_divmod (by decide +kernel) (fa_cons (fe_ixM (pv 0) fe_int (fun _ _ => rfl)) (fa_cons (fe_vr (pv 1)) fa_nil))) (fg_tup rfl (fgs_cons (fg_sub (W := W) (pv 0) fe_int) (fgs_cons (fg_name sc__law_drip.nd (i := 2) rfl (Or.inl rfl)) fgs_nil)))) (fss_one (fs_ret (fe_vr (pv 2))))) fss_nil) (fss_cons (fs_set sc__law_drip.nd (i := 3) rfl (Or.inl rfl) (fe_bin o_add q_add (fe_bin o_mul q_mul fe_int (fe_ixM (pv 0) fe_int (fun _ _ => rfl))) (fe_bin o_mul q_mul (fe_bin o_mul q_mul fe_int (fe_ixM (pv 0) fe_int (fun _ _ => rfl))) (fe_ixM (pv 0) fe_int (fun _ _ => rfl))))) (fss_cons (fs_sub (pv 0) (fe_bin op_modN q_mod (fe_callTy q_int call_int1 rfl T.b_int (by decide +kernel) (fa_cons (fe_bin o_add q_add (fe_bin o_mul q_mul (fe_ixM (pv 0) fe_int (fun _ _ => rfl)) fe_int) (fe_vr (pv 3))) fa_nil)) fe_int) fe_int) (fss_one (fs_ret (fe_bin op_modN q_mod (fe_callTy q_int call_int1 rfl T.b_int (by decide +kernel) (fa_cons (fe_bin o_fdiv q_fdiv (fe_ixM (pv 0) fe_int (fun _ _ => rfl)) fe_int) fa_nil)) (fe_vr (pv 1)))))))))
  exact z
theorem ok__law_drip {f : Addr} {fd : FuncData} (T : Txt K mg) (Fd : Fun K "_law_drip" "_law_drip" s__law_drip f fd) (hm : mg "_law_drip" = some (.ref f))  : Cal P w K mg base 1 "_law_drip" ["_law_spring_here", "_law_size"] [] G__law_drip :=
  cal_of Fd hm (fn__law_drip T Fd ) (fun _ _ _ _ _ _ us hl => match us, hl with | [_, _], _ => rfl) kb_nil
theorem sc__law_any : FnScope ["_law_spring_here", "_law_some"] ["_law_spring_here", "_law_some"] (defScope s__law_any) := ⟨rfl, rfl, rfl, by decide +kernel, rfl, by decide +kernel, by decide +kernel⟩
theorem fn__law_any {f : Addr} {fd : FuncData} (T : Txt K mg) (Fd : Fun K "_law_any" "_law_any" s__law_any f fd) (C__law_drip : Cal P w K mg base 1 "_law_drip" ["_law_spring_here", "_law_size"] [] G__law_drip) : FnG P w K mg base 2 f fd ["_law_spring_here", "_law_some"] (spG K 2 G__law_any) := by
  obtain ⟨f__law_drip, fd__law_drip, F__law_drip, m__law_drip, k__law_drip, b__law_drip, q__law_drip⟩ := C__law_drip.ex
  have z := fnG (P := P) (w := w) (mg := mg) (base := base) (k := 1) (N := ["_law_spring_here", "_law_some"]) (ps := ["_law_spring_here", "_law_some"]) (g := g__law_any) Fd sc__law_any fun cdv A outer s H E π W hr tk hp => by exact (fss_one (fs_ret (fe_ix (fe_vr (pv 1)) (fe_call F__law_drip (rm_mono hr (by rfl)) tk rfl m__law_drip k__law_drip b__law_drip (fb_sl (pv 0) (fb_cons (fe_callB q_len o_len rfl T.b_len (by decide +kernel) (fa_cons (fe_vr (pv 1)) fa_nil)) fb_nil))) (fun _ _ => rfl))))
  exact z
theorem ok__law_any {f : Addr} {fd : FuncData} (T : Txt K mg) (Fd : Fun K "_law_any" "_law_any" s__law_any f fd) (hm : mg "_law_any" = some (.ref f)) (C__law_drip : Cal P w K mg base 1 "_law_drip" ["_law_spring_here", "_law_size"] [] G__law_drip) : Cal P w K mg base 2 "_law_any" ["_law_spring_here", "_law_some"] [] G__law_any :=
  cal_of Fd hm (fn__law_any T Fd C__law_drip) (fun _ _ _ _ _ _ us hl => match us, hl with | [_, _], _ => rfl) kb_nil
theorem sc__law_gcd : FnScope ["_law_one", "_law_other", "_law_turn"] ["_law_one", "_law_other"] (defScope s__law_gcd) := ⟨rfl, rfl, rfl, by decide +kernel, rfl, by decide +kernel, by decide +kernel⟩
theorem fn__law_gcd {f : Addr} {fd : FuncData} (T : Txt K mg) (Fd : Fun K "_law_gcd" "_law_gcd" s__law_gcd f fd)  : FnG P w K mg base 1 f fd ["_law_one", "_law_other"] (spG K 2 G__law_gcd) := by
  have z := fnG (P := P) (w := w) (mg := mg) (base := base) (k := 0) (N := ["_law_one", "_law_other", "_law_turn"]) (ps := ["_law_one", "_law_other"]) (g := g__law_gcd) Fd sc__law_gcd fun cdv A outer s H E π W hr tk hp => by exact (fss_cons (fs_for (ks := []) hp rfl (fi_range1 rfl T.b_range (fa_cons fe_int fa_nil)) (fg_name sc__law_gcd.nd (i := 2) rfl (Or.inl rfl)) (fss_one (fs_if (ft_cmp (o_neA hr.u64) q_neA (fe_vr (pv 1)) fe_int (by rfl)) (fss_one (fs_par rfl sc__law_gcd.nd (i := 0) (j := 1) rfl rfl (by decide) rfl rfl (fa_cons (fe_vr (pv 1)) (fa_cons (fe_bin op_modN q_mod (fe_callTy q_int call_int1 rfl T.b_int (by decide +kernel) (fa_cons (fe_vr (pv 0)) fa_nil)) (fe_vr (pv 1))) fa_nil)) (by rfl))) fss_nil))) (fss_one (fs_ret (fe_callB q_abs call_abs rfl T.b_abs (by decide +kernel) (fa_cons (fe_vr (pv 0)) fa_nil)))))
  exact z
theorem ok__law_gcd {f : Addr} {fd : FuncData} (T : Txt K mg) (Fd : Fun K "_law_gcd" "_law_gcd" s__law_gcd f fd) (hm : mg "_law_gcd" = some (.ref f))  : Cal P w K mg base 1 "_law_gcd" ["_law_one", "_law_other"] [] G__law_gcd :=
  cal_of Fd hm (fn__law_gcd T Fd ) (fun _ _ _ _ _ _ us hl => match us, hl with | [_, _], _ => rfl) kb_nil
theorem sc__law_some_pair : FnScope ["_law_spring_here", "_law_most", "_law_p", "_law_q"] ["_law_spring_here", "_law_most"] (defScope s__law_some_pair) := ⟨rfl, rfl, rfl, by decide +kernel, rfl, by decide +kernel, by decide +kernel⟩
theorem fn__law_some_pair {f : Addr} {fd : FuncData} (T : Txt K mg) (Fd : Fun K "_law_some_pair" "_law_some_pair" s__law_some_pair f fd) (C__law_drip : Cal P w K mg base 1 "_law_drip" ["_law_spring_here", "_law_size"] [] G__law_drip) (C__law_any : Cal P w K mg base 2 "_law_any" ["_law_spring_here", "_law_some"] [] G__law_any) (C__law_gcd : Cal P w K mg base 1 "_law_gcd" ["_law_one", "_law_other"] [] G__law_gcd) : FnG P w K mg base 3 f fd ["_law_spring_here", "_law_most"] (spG K 2 G__law_some_pair) := by
  obtain ⟨f__law_drip, fd__law_drip, F__law_drip, m__law_drip, k__law_drip, b__law_drip, q__law_drip⟩ := C__law_drip.ex
  obtain ⟨f__law_any, fd__law_any, F__law_any, m__law_any, k__law_any, b__law_any, q__law_any⟩ := C__law_any.ex
  obtain ⟨f__law_gcd, fd__law_gcd, F__law_gcd, m__law_gcd, k__law_gcd, b__law_gcd, q__law_gcd⟩ := C__law_gcd.ex
  have z := fnG (P := P) (w := w) (mg := mg) (base := base) (k := 2) (N := ["_law_spring_here", "_law_most", "_law_p", "_law_q"]) (ps := ["_law_spring_here", "_law_most"]) (g := g__law_some_pair) Fd sc__law_some_pair fun cdv A outer s H E π W hr tk hp => by exact (fss_cons (fs_if (ft_cmp (o_eqA hr.u64) q_eqA (fe_call F__law_drip (rm_mono hr (by rfl)) tk rfl m__law_drip k__law_drip b__law_drip (fb_sl (pv 0) (fb_cons fe_int fb_nil))) fe_int (by rfl)) (fss_one (fs_ret (fe_call F__law_any (rm_mono hr (by rfl)) tk rfl m__law_any k__law_any b__law_any (fb_sl (pv 0) (fb_cons (fe_frz (fm_lst (fa_cons (fe_tup (fa_cons fe_int (fa_cons fe_int fa_nil))) (fa_cons (fe_tup (fa_cons fe_int (fa_cons fe_int fa_nil))) fa_nil)))) fb_nil))))) fss_nil) (fss_cons (fs_set sc__law_some_pair.nd (i := 2) rfl (Or.inr rfl) (fe_bin o_add q_add fe_int (fe_call F__law_drip (rm_mono hr (by rfl)) tk rfl m__law_drip k__law_drip b__law_drip (fb_sl (pv 0) (fb_cons (fe_bin op_sub q_sub (fe_vr (pv 1)) fe_int) fb_nil))))) (fss_one (fs_ret (fe_call F__law_any (rm_mono hr (by rfl)) tk rfl m__law_any k__law_any b__law_any (fb_sl (pv 0) (fb_cons (fe_frz (fm_lc (own := [("_law_q", 3)]) rfl sc__law_some_pair.nd (fi_range2 rfl T.b_range (fa_cons fe_int (fa_cons (fe_vr (pv 2)) fa_nil))) (show BlkOk ["_law_spring_here", "_law_most", "_law_p", "_law_q"] (defScope s__law_some_pair) _ _ from blkOk_by (by decide +kernel)) (fun _ _ _ _ _ => (fg_name sc__law_some_pair.nd (i := 3) rfl (Or.inl rfl))) (fun _ _ _ _ _ => (pts_one (ft_cmp (o_eqA hr.u64) q_eqA (fe_call F__law_gcd (rm_mono hr (by rfl)) takes_0 rfl m__law_gcd k__law_gcd b__law_gcd (fb_cons (fe_vr (pv 2)) (fb_cons (fe_vr (pv 3)) fb_nil))) fe_int (by rfl)))) (fun _ _ _ _ _ => (fe_tup (fa_cons (fe_vr (pv 2)) (fa_cons (fe_vr (pv 3)) fa_nil)))) (by decide))) fb_nil)))))))
  exact z
theorem ok__law_some_pair {f : Addr} {fd : FuncData} (T : Txt K mg) (Fd : Fun K "_law_some_pair" "_law_some_pair" s__law_some_pair f fd) (hm : mg "_law_some_pair" = some (.ref f)) (C__law_drip : Cal P w K mg base 1 "_law_drip" ["_law_spring_here", "_law_size"] [] G__law_drip) (C__law_any : Cal P w K mg base 2 "_law_any" ["_law_spring_here", "_law_some"] [] G__law_any) (C__law_gcd : Cal P w K mg base 1 "_law_gcd" ["_law_one", "_law_other"] [] G__law_gcd) : Cal P w K mg base 3 "_law_some_pair" ["_law_spring_here", "_law_most"] [] G__law_some_pair :=
  cal_of Fd hm (fn__law_some_pair T Fd C__law_drip C__law_any C__law_gcd) (fun _ _ _ _ _ _ us hl => match us, hl with | [_, _], _ => rfl) kb_nil
theorem sc__law_mate : FnScope ["_law_spring_here", "_law_pair", "_law_q"] ["_law_spring_here", "_law_pair"] (defScope s__law_mate) := ⟨rfl, rfl, rfl, by decide +kernel, rfl, by decide +kernel, by decide +kernel⟩
theorem fn__law_mate {f : Addr} {fd : FuncData} (T : Txt K mg) (Fd : Fun K "_law_mate" "_law_mate" s__law_mate f fd) (C__law_any : Cal P w K mg base 2 "_law_any" ["_law_spring_here", "_law_some"] [] G__law_any) (C__law_gcd : Cal P w K mg base 1 "_law_gcd" ["_law_one", "_law_other"] [] G__law_gcd) : FnG P w K mg base 3 f fd ["_law_spring_here", "_law_pair"] (spG K 2 G__law_mate) := by
  obtain ⟨f__law_any, fd__law_any, F__law_any, m__law_any, k__law_any, b__law_any, q__law_any⟩ := C__law_any.ex
  obtain ⟨f__law_gcd, fd__law_gcd, F__law_gcd, m__law_gcd, k__law_gcd, b__law_gcd, q__law_gcd⟩ := C__law_gcd.ex
  have z := fnG (P := P) (w := w) (mg := mg) (base := base) (k := 2) (N := ["_law_spring_here", "_law_pair", "_law_q"]) (ps := ["_law_spring_here", "_law_pair"]) (g := g__law_mate) Fd sc__law_mate fun cdv A outer s H E π W hr tk hp => by exact (fss_cons (fs_if (ft_cmp op_lt q_cmp (fe_ix (fe_vr (pv 1)) fe_int (fun _ _ => rfl)) fe_int (by rfl)) (fss_one (fs_ret (fe_vr (pv 1)))) fss_nil) (fss_one (fs_ret (fe_call F__law_any (rm_mono hr (by rfl)) tk rfl m__law_any k__law_any b__law_any (fb_sl (pv 0) (fb_cons (fe_frz (fm_lc (own := [("_law_q", 2)]) rfl sc__law_mate.nd (fi_range2 rfl T.b_range (fa_cons fe_int (fa_cons (fe_ix (fe_vr (pv 1)) fe_int (fun _ _ => rfl)) fa_nil))) (show BlkOk ["_law_spring_here", "_law_pair", "_law_q"] (defScope s__law_mate) _ _ from blkOk_by (by decide +kernel)) (fun _ _ _ _ _ => (fg_name sc__law_mate.nd (i := 2) rfl (Or.inl rfl))) (fun _ _ _ _ _ => (pts_one (ft_cmp (o_eqA hr.u64) q_eqA (fe_call F__law_gcd (rm_mono hr (by rfl)) takes_0 rfl m__law_gcd k__law_gcd b__law_gcd (fb_cons (fe_ix (fe_vr (pv 1)) fe_int (fun _ _ => rfl)) (fb_cons (fe_vr (pv 2)) fb_nil))) fe_int (by rfl)))) (fun _ _ _ _ _ => (fe_tup (fa_cons (fe_ix (fe_vr (pv 1)) fe_int (fun _ _ => rfl)) (fa_cons (fe_vr (pv 2)) fa_nil)))) (by decide))) fb_nil))))))
  exact z
theorem ok__law_mate {f : Addr} {fd : FuncData} (T : Txt K mg) (Fd : Fun K "_law_mate" "_law_mate" s__law_mate f fd) (hm : mg "_law_mate" = some (.ref f)) (C__law_any : Cal P w K mg base 2 "_law_any" ["_law_spring_here", "_law_some"] [] G__law_any) (C__law_gcd : Cal P w K mg base 1 "_law_gcd" ["_law_one", "_law_other"] [] G__law_gcd) : Cal P w K mg base 3 "_law_mate" ["_law_spring_here", "_law_pair"] [] G__law_mate :=
  cal_of Fd hm (fn__law_mate T Fd C__law_any C__law_gcd) (fun _ _ _ _ _ _ us hl => match us, hl with | [_, _], _ => rfl) kb_nil
theorem sc__law_odd : FnScope ["_law_spring_here", "_law_some"] ["_law_spring_here"] (defScope s__law_odd) := ⟨rfl, rfl, rfl, by decide +kernel, rfl, by decide +kernel, by decide +kernel⟩
theorem fn__law_odd {f : Addr} {fd : FuncData} (T : Txt K mg) (Fd : Fun K "_law_odd" "_law_odd" s__law_odd f fd) (C__law_any : Cal P w K mg base 2 "_law_any" ["_law_spring_here", "_law_some"] [] G__law_any) : FnG P w K mg base 3 f fd ["_law_spring_here"] (spG K 1 G__law_odd) := by
  obtain ⟨f__law_any, fd__law_any, F__law_any, m__law_any, k__law_any, b__law_any, q__law_any⟩ := C__law_any.ex
  have z := fnG (P := P) (w := w) (mg := mg) (base := base) (k := 2) (N := ["_law_spring_here", "_law_some"]) (ps := ["_law_spring_here"]) (g := g__law_odd) Fd sc__law_odd fun cdv A outer s H E π W hr tk hp => by exact (fss_cons (fs_set sc__law_odd.nd (i := 1) rfl (Or.inl rfl) (fe_frz (fm_lst (fa_cons fe_non (fa_cons fe_bl (fa_cons fe_bl (fa_cons fe_int (fa_cons fe_int (fa_cons (fe_un un_neg q_neg fe_int) (fa_cons fe_str (fa_cons fe_str (fa_cons (fe_tup fa_nil) (fa_cons (fe_tup (fa_cons fe_int fa_nil)) (fa_cons (fe_frz (fm_lst (fa_cons fe_int fa_nil))) (fa_cons fe_dict0 (fa_cons (fe_tup (fa_cons fe_int (fa_cons fe_int fa_nil))) (fa_cons (fe_bin op_pow q_pow fe_int fe_int) (fa_cons (fe_tup (fa_cons (fe_tup (fa_cons fe_int (fa_cons fe_int fa_nil))) fa_nil)) (fa_cons (fe_tup (fa_cons (fe_un un_neg q_neg fe_int) fa_nil)) (fa_cons fe_str fa_nil)))))))))))))))))))) (fss_one (fs_ret (fe_call F__law_any (rm_mono hr (by rfl)) tk rfl m__law_any k__law_any b__law_any (fb_sl (pv 0) (fb_cons (fe_vr (pv 1)) fb_nil))))))
  exact z
theorem ok__law_odd {f : Addr} {fd : FuncData} (T : Txt K mg) (Fd : Fun K "_law_odd" "_law_odd" s__law_odd f fd) (hm : mg "_law_odd" = some (.ref f)) (C__law_any : Cal P w K mg base 2 "_law_any" ["_law_spring_here", "_law_some"] [] G__law_any) : Cal P w K mg base 3 "_law_odd" ["_law_spring_here"] [] G__law_odd :=
  cal_of Fd hm (fn__law_odd T Fd C__law_any) (fun _ _ _ _ _ _ us hl => match us, hl with | [_], _ => rfl) kb_nil
theorem sc_is_integer : FnScope ["value"] ["value"] (defScope s_is_integer) := ⟨rfl, rfl, rfl, by decide +kernel, rfl, by decide +kernel, by decide +kernel⟩
theorem fn_is_integer {f : Addr} {fd : FuncData} (T : Txt K mg) (Fd : Fun K "is_integer" "is_integer" s_is_integer f fd)  : FnG P w K mg base 1 f fd ["value"] (spG K 1 G_is_integer) := by
  have z := fnG (P := P) (w := w) (mg := mg) (base := base) (k := 0) (N := ["value"]) (ps := ["value"]) (g := g_is_integer) Fd sc_is_integer fun cdv A outer s H E π W hr tk hp => by exact (fss_one (fs_ret (fe_and (fe_isi (T := .int) (by intro z; cases z) rfl T.b_isinstance rfl rfl T.b_int (by decide +kernel) (fe_vr (pv 0))) (pe_one (fe_not (fe_isi (T := .bl) (by intro z; cases z) rfl T.b_isinstance rfl rfl T.b_bool (by decide +kernel) (fe_vr (pv 0))))))))
  exact z
theorem ok_is_integer {f : Addr} {fd : FuncData} (T : Txt K mg) (Fd : Fun K "is_integer" "is_integer" s_is_integer f fd) (hm : mg "is_integer" = some (.ref f))  : Cal P w K mg base 1 "is_integer" ["value"] [] G_is_integer :=
  cal_of Fd hm (fn_is_integer T Fd ) (fun _ _ _ _ _ _ us hl => match us, hl with | [_], _ => rfl) kb_nil
theorem sc_common : FnScope ["high", "low"] ["high", "low"] (defScope s_common) := ⟨rfl, rfl, rfl, by decide +kernel, rfl, by decide +kernel, by decide +kernel⟩
theorem fn_common {f : Addr} {fd : FuncData} (T : Txt K mg) (Fd : Fun K "common" "common" s_common f fd)  : FnG P w K mg base 1 f fd ["high", "low"] (spG K 2 G_common) := by
  have z := fnG (P := P) (w := w) (mg := mg) (base := base) (k := 0) (N := ["high", "low"]) (ps := ["high", "low"]) (g := g_common) Fd sc_common fun cdv A outer s H E π W hr tk hp => by exact (fss_cons (fs_while (ks := []) hp (ft_cmp op_gt q_cmp (fe_vr (pv 1)) fe_int (by rfl)) (fss_one (fs_par rfl sc_common.nd (i := 0) (j := 1) rfl rfl (by decide) rfl rfl (fa_cons (fe_vr (pv 1)) (fa_cons (fe_bin op_modN q_mod (fe_vr (pv 0)) (fe_vr (pv 1))) fa_nil)) (by rfl)))) (fss_one (fs_ret (fe_vr (pv 0)))))
  exact z
theorem ok_common {f : Addr} {fd : FuncData} (T : Txt K mg) (Fd : Fun K "common" "common" s_common f fd) (hm : mg "common" = some (.ref f))  : Cal P w K mg base 1 "common" ["high", "low"] [] G_common :=
  cal_of Fd hm (fn_common T Fd ) (fun _ _ _ _ _ _ us hl => match us, hl with | [_, _], _ => rfl) kb_nil
theorem sc_is_pair : FnScope ["value"] ["value"] (defScope s_is_pair) := ⟨rfl, rfl, rfl, by decide +kernel, rfl, by decide +kernel, by decide +kernel⟩
theorem fn_is_pair {f : Addr} {fd : FuncData} (T : Txt K mg) (Fd : Fun K "is_pair" "is_pair" s_is_pair f fd) (C_is_integer : Cal P w K mg base 1 "is_integer" ["value"] [] G_is_integer) (C_common : Cal P w K mg base 1 "common" ["high", "low"] [] G_common) : FnG P w K mg base 2 f fd ["value"] (spG K 1 G_is_pair) := by
  obtain ⟨f_is_integer, fd_is_integer, F_is_integer, m_is_integer, k_is_integer, b_is_integer, q_is_integer⟩ := C_is_integer.ex
  obtain ⟨f_common, fd_common, F_common, m_common, k_common, b_common, q_common⟩ := C_common.ex
  have z := fnG (P := P) (w := w) (mg := mg) (base := base) (k := 1) (N := ["value"]) (ps := ["value"]) (g := g_is_pair) Fd sc_is_pair fun cdv A outer s H E π W hr tk hp => by exact (fss_cons (fs_if (PW.pt (fw_or (ft_not (ft_val (fe_isi (T := .tup) (by intro z; cases z) rfl T.b_isinstance rfl rfl T.b_tuple (by decide +kernel) (fe_vr (pv 0))))) (fw_or (ft_cmp (o_neA hr.u64) q_neA (fe_callB q_len o_len rfl T.b_len (by decide +kernel) (fa_cons (fe_vr (pv 0)) fa_nil)) fe_int (by rfl)) (fw_or (ft_not (ft_val (fe_call F_is_integer (rm_mono hr (by rfl)) tk rfl m_is_integer k_is_integer b_is_integer (fb_cons (fe_ix (fe_vr (pv 0)) fe_int (fun _ _ => rfl)) fb_nil)))) (pw_or1 (ft_not (ft_val (fe_call F_is_integer (rm_mono hr (by rfl)) tk rfl m_is_integer k_is_integer b_is_integer (fb_cons (fe_ix (fe_vr (pv 0)) fe_int (fun _ _ => rfl)) fb_nil))))))))) (fss_one (fs_ret fe_bl)) fss_nil) (fss_cons (fs_if (ft_cmp (o_eqA hr.u64) q_eqA (fe_ix (fe_vr (pv 0)) fe_int (fun _ _ => rfl)) fe_int (by rfl)) (fss_one (fs_ret (fe_cmp (o_eqA hr.u64) q_eqA (fe_ix (fe_vr (pv 0)) fe_int (fun _ _ => rfl)) fe_int (by rfl)))) fss_nil) (fss_one (fs_ret (fe_and (fe_chn op_le op_lt q_cmp q_cmp fe_int (fe_ix (fe_vr (pv 0)) fe_int (fun _ _ => rfl)) (fe_ix (fe_vr (pv 0)) fe_int (fun _ _ => rfl)) (by rfl)) (pe_one (fe_cmp (o_eqA hr.u64) q_eqA (fe_call F_common (rm_mono hr (by rfl)) tk rfl m_common k_common b_common (fb_cons (fe_ix (fe_vr (pv 0)) fe_int (fun _ _ => rfl)) (fb_cons (fe_ix (fe_vr (pv 0)) fe_int (fun _ _ => rfl)) fb_nil))) fe_int (by rfl))))))))
  exact z
theorem ok_is_pair {f : Addr} {fd : FuncData} (T : Txt K mg) (Fd : Fun K "is_pair" "is_pair" s_is_pair f fd) (hm : mg "is_pair" = some (.ref f)) (C_is_integer : Cal P w K mg base 1 "is_integer" ["value"] [] G_is_integer) (C_common : Cal P w K mg base 1 "common" ["high", "low"] [] G_common) : Cal P w K mg base 2 "is_pair" ["value"] [] G_is_pair :=
  cal_of Fd hm (fn_is_pair T Fd C_is_integer C_common) (fun _ _ _ _ _ _ us hl => match us, hl with | [_], _ => rfl) kb_nil
theorem sc_are_same_size : FnScope ["one", "other"] ["one", "other"] (defScope s_are_same_size) := ⟨rfl, rfl, rfl, by decide +kernel, rfl, by decide +kernel, by decide +kernel⟩
theorem fn_are_same_size {f : Addr} {fd : FuncData} (T : Txt K mg) (Fd : Fun K "are_same_size" "are_same_size" s_are_same_size f fd) (C_is_pair : Cal P w K mg base 2 "is_pair" ["value"] [] G_is_pair) : FnG P w K mg base 3 f fd ["one", "other"] (spG K 2 G_are_same_size) := by
  obtain ⟨f_is_pair, fd_is_pair, F_is_pair, m_is_pair, k_is_pair, b_is_pair, q_is_pair⟩ := C_is_pair.ex
  have z := fnG (P := P) (w := w) (mg := mg) (base := base) (k := 2) (N := ["one", "other"]) (ps := ["one", "other"]) (g := g_are_same_size) Fd sc_are_same_size fun cdv A outer s H E π W hr tk hp => by exact (fss_one (fs_ret (fe_and (fe_call F_is_pair (rm_mono hr (by rfl)) tk rfl m_is_pair k_is_pair b_is_pair (fb_cons (fe_vr (pv 0)) fb_nil)) (fe_and (fe_call F_is_pair (rm_mono hr (by rfl)) tk rfl m_is_pair k_is_pair b_is_pair (fb_cons (fe_vr (pv 1)) fb_nil)) (pe_one (fe_cmp (o_eqA hr.u64) q_eqA (fe_ix (fe_vr (pv 0)) fe_int (fun _ _ => rfl)) (fe_ix (fe_vr (pv 1)) fe_int (fun _ _ => rfl)) (by rfl)))))))
  exact z
theorem ok_are_same_size {f : Addr} {fd : FuncData} (T : Txt K mg) (Fd : Fun K "are_same_size" "are_same_size" s_are_same_size f fd) (hm : mg "are_same_size" = some (.ref f)) (C_is_pair : Cal P w K mg base 2 "is_pair" ["value"] [] G_is_pair) : Cal P w K mg base 3 "are_same_size" ["one", "other"] [] G_are_same_size :=
  cal_of Fd hm (fn_are_same_size T Fd C_is_pair) (fun _ _ _ _ _ _ us hl => match us, hl with | [_, _], _ => rfl) kb_nil
theorem sc_is_claim : FnScope ["value"] ["value"] (defScope s_is_claim) := ⟨rfl, rfl, rfl, by decide +kernel, rfl, by decide +kernel, by decide +kernel⟩
theorem fn_is_claim {f : Addr} {fd : FuncData} (T : Txt K mg) (Fd : Fun K "is_claim" "is_claim" s_is_claim f fd) (C_are_same_size : Cal P w K mg base 3 "are_same_size" ["one", "other"] [] G_are_same_size) : FnG P w K mg base 4 f fd ["value"] (spG K 1 G_is_claim) := by
  obtain ⟨f_are_same_size, fd_are_same_size, F_are_same_size, m_are_same_size, k_are_same_size, b_are_same_size, q_are_same_size⟩ := C_are_same_size.ex
  obtain ⟨a_OF_STRINGS, m_OF_STRINGS, h_OF_STRINGS⟩ := T.c_OF_STRINGS
  have r_OF_STRINGS : ∀ F : Hp, Reps K F [V.str "led", V.str "apart"] [D.str "led", D.str "apart"] := fun F => .cons (.str _) (.cons (.str _) (.nil))
  obtain ⟨a_OF_PAIRS, m_OF_PAIRS, h_OF_PAIRS⟩ := T.c_OF_PAIRS
  have r_OF_PAIRS : ∀ F : Hp, Reps K F [V.str "alike", V.str "for loops", V.str "not for loops"] [D.str "alike", D.str "for loops", D.str "not for loops"] := fun F => .cons (.str _) (.cons (.str _) (.cons (.str _) (.nil)))
  have z := fnG (P := P) (w := w) (mg := mg) (base := base) (k := 3) (N := ["value"]) (ps := ["value"]) (g := g_is_claim) Fd sc_is_claim fun cdv A outer s H E π W hr tk hp => by exact (fss_cons (fs_if (PW.pt (fw_or (ft_not (ft_val (fe_isi (T := .tup) (by intro z; cases z) rfl T.b_isinstance rfl rfl T.b_tuple (by decide +kernel) (fe_vr (pv 0))))) (fw_or (ft_cmp (o_neA hr.u64) q_neA (fe_callB q_len o_len rfl T.b_len (by decide +kernel) (fa_cons (fe_vr (pv 0)) fa_nil)) fe_int (by rfl)) (pw_or1 (ft_not (ft_val (fe_isi (T := .str) (by intro z; cases z) rfl T.b_isinstance rfl rfl T.b_str (by decide +kernel) (fe_ix (fe_vr (pv 0)) fe_int (fun _ _ => rfl))))))))) (fss_one (fs_ret fe_bl)) fss_nil) (fss_cons (fs_if (ft_cmp (o_inA hr.u65) q_inA (fe_ix (fe_vr (pv 0)) fe_int (fun _ _ => rfl)) (fe_gtup rfl m_OF_STRINGS h_OF_STRINGS r_OF_STRINGS) (by rfl)) (fss_one fs_never) fss_nil) (fss_one (fs_ret (fe_and (fe_cmp (o_inA hr.u65) q_inA (fe_ix (fe_vr (pv 0)) fe_int (fun _ _ => rfl)) (fe_gtup rfl m_OF_PAIRS h_OF_PAIRS r_OF_PAIRS) (by rfl)) (pe_one (fe_call F_are_same_size (rm_mono hr (by rfl)) tk rfl m_are_same_size k_are_same_size b_are_same_size (fb_cons (fe_ix (fe_vr (pv 0)) fe_int (fun _ _ => rfl)) (fb_cons (fe_ix (fe_vr (pv 0)) fe_int (fun _ _ => rfl)) fb_nil)))))))))
  exact z
theorem ok_is_claim {f : Addr} {fd : FuncData} (T : Txt K mg) (Fd : Fun K "is_claim" "is_claim" s_is_claim f fd) (hm : mg "is_claim" = some (.ref f)) (C_are_same_size : Cal P w K mg base 3 "are_same_size" ["one", "other"] [] G_are_same_size) : Cal P w K mg base 4 "is_claim" ["value"] [] G_is_claim :=
  cal_of Fd hm (fn_is_claim T Fd C_are_same_size) (fun _ _ _ _ _ _ us hl => match us, hl with | [_], _ => rfl) kb_nil
theorem sc_is_sign : FnScope ["value"] ["value"] (defScope s_is_sign) := ⟨rfl, rfl, rfl, by decide +kernel, rfl, by decide +kernel, by decide +kernel⟩
theorem fn_is_sign {f : Addr} {fd : FuncData} (T : Txt K mg) (Fd : Fun K "is_sign" "is_sign" s_is_sign f fd) (C_is_integer : Cal P w K mg base 1 "is_integer" ["value"] [] G_is_integer) : FnG P w K mg base 2 f fd ["value"] (spG K 1 G_is_sign) := by
  obtain ⟨f_is_integer, fd_is_integer, F_is_integer, m_is_integer, k_is_integer, b_is_integer, q_is_integer⟩ := C_is_integer.ex
  have z := fnG (P := P) (w := w) (mg := mg) (base := base) (k := 1) (N := ["value"]) (ps := ["value"]) (g := g_is_sign) Fd sc_is_sign fun cdv A outer s H E π W hr tk hp => by exact (fss_one (fs_ret (fe_and (fe_call F_is_integer (rm_mono hr (by rfl)) tk rfl m_is_integer k_is_integer b_is_integer (fb_cons (fe_vr (pv 0)) fb_nil)) (pe_one (fe_cmp (o_inA hr.u65) q_inA (fe_vr (pv 0)) (fe_tup (fa_cons fe_int (fa_cons (fe_un un_neg q_neg fe_int) fa_nil))) (by rfl))))))
  exact z
theorem ok_is_sign {f : Addr} {fd : FuncData} (T : Txt K mg) (Fd : Fun K "is_sign" "is_sign" s_is_sign f fd) (hm : mg "is_sign" = some (.ref f)) (C_is_integer : Cal P w K mg base 1 "is_integer" ["value"] [] G_is_integer) : Cal P w K mg base 2 "is_sign" ["value"] [] G_is_sign :=
  cal_of Fd hm (fn_is_sign T Fd C_is_integer) (fun _ _ _ _ _ _ us hl => match us, hl with | [_], _ => rfl) kb_nil
theorem sc_shows_alike : FnScope ["one", "other", "paper", "whole"] ["one", "other", "paper"] (defScope s_shows_alike) := ⟨rfl, rfl, rfl, by decide +kernel, rfl, by decide +kernel, by decide +kernel⟩
theorem fn_shows_alike {f : Addr} {fd : FuncData} (T : Txt K mg) (Fd : Fun K "shows_alike" "shows_alike" s_shows_alike f fd) (C_is_sign : Cal P w K mg base 2 "is_sign" ["value"] [] G_is_sign) : FnG P w K mg base 3 f fd ["one", "other", "paper"] (spG K 3 G_shows_alike) := by
  obtain ⟨f_is_sign, fd_is_sign, F_is_sign, m_is_sign, k_is_sign, b_is_sign, q_is_sign⟩ := C_is_sign.ex
  have z := fnG (P := P) (w := w) (mg := mg) (base := base) (k := 2) (N := ["one", "other", "paper", "whole"]) (ps := ["one", "other", "paper"]) (g := g_shows_alike) Fd sc_shows_alike fun cdv A outer s H E π W hr tk hp => by exact (fss_cons (fs_set sc_shows_alike.nd (i := 3) rfl (Or.inl rfl) (fe_ix (fe_vr (pv 0)) fe_int (fun _ _ => rfl))) (fss_cons (fs_if (PW.pt (fw_or (ft_not (ft_val (fe_call F_is_sign (rm_mono hr (by rfl)) tk rfl m_is_sign k_is_sign b_is_sign (fb_cons (fe_vr (pv 2)) fb_nil)))) (pw_or1 (ft_cmp op_lt q_cmp (fe_vr (pv 3)) fe_int (by rfl))))) (fss_one (fs_ret (fe_and (fe_call F_is_sign (rm_mono hr (by rfl)) tk rfl m_is_sign k_is_sign b_is_sign (fb_cons (fe_vr (pv 2)) fb_nil)) (fe_and (fe_cmp (o_eqA hr.u64) q_eqA (fe_vr (pv 2)) fe_int (by rfl)) (pe_one (fe_cmp (o_eqA hr.u64) q_eqA (fe_vr (pv 0)) (fe_vr (pv 1)) (by rfl))))))) fss_nil) (fss_one (fs_ret (fe_or (fe_cmp (o_eqA hr.u64) q_eqA (fe_bin op_modN q_mod (fe_bin op_sub q_sub (fe_bin o_mul q_mul (fe_vr (pv 2)) (fe_ix (fe_vr (pv 0)) fe_int (fun _ _ => rfl))) (fe_ix (fe_vr (pv 1)) fe_int (fun _ _ => rfl))) (fe_vr (pv 3))) fe_int (by rfl)) (pe_one (fe_cmp (o_eqA hr.u64) q_eqA (fe_bin op_modN q_mod (fe_bin op_sub q_sub (fe_bin o_mul q_mul (fe_ix (fe_vr (pv 0)) fe_int (fun _ _ => rfl)) (fe_ix (fe_vr (pv 1)) fe_int (fun _ _ => rfl))) (fe_vr (pv 2))) (fe_vr (pv 3))) fe_int (by rfl))))))))
  exact z
theorem ok_shows_alike {f : Addr} {fd : FuncData} (T : Txt K mg) (Fd : Fun K "shows_alike" "shows_alike" s_shows_alike f fd) (hm : mg "shows_alike" = some (.ref f)) (C_is_sign : Cal P w K mg base 2 "is_sign" ["value"] [] G_is_sign) : Cal P w K mg base 3 "shows_alike" ["one", "other", "paper"] [] G_shows_alike :=
  cal_of Fd hm (fn_shows_alike T Fd C_is_sign) (fun _ _ _ _ _ _ us hl => match us, hl with | [_, _, _], _ => rfl) kb_nil
theorem sc_accepts : FnScope ["claim", "paper", "word", "one", "other"] ["claim", "paper"] (defScope s_accepts) := ⟨rfl, rfl, rfl, by decide +kernel, rfl, by decide +kernel, by decide +kernel⟩
theorem fn_accepts {f : Addr} {fd : FuncData} (T : Txt K mg) (Fd : Fun K "accepts" "accepts" s_accepts f fd) (C_is_claim : Cal P w K mg base 4 "is_claim" ["value"] [] G_is_claim) (C_shows_alike : Cal P w K mg base 3 "shows_alike" ["one", "other", "paper"] [] G_shows_alike) : FnG P w K mg base 5 f fd ["claim", "paper"] (spG K 2 G_accepts) := by
  obtain ⟨f_is_claim, fd_is_claim, F_is_claim, m_is_claim, k_is_claim, b_is_claim, q_is_claim⟩ := C_is_claim.ex
  obtain ⟨f_shows_alike, fd_shows_alike, F_shows_alike, m_shows_alike, k_shows_alike, b_shows_alike, q_shows_alike⟩ := C_shows_alike.ex
  have z := fnG (P := P) (w := w) (mg := mg) (base := base) (k := 4) (N := ["claim", "paper", "word", "one", "other"]) (ps := ["claim", "paper"]) (g := g_accepts) Fd sc_accepts fun cdv A outer s H E π W hr tk hp => by exact (fss_cons (fs_if (ft_not (ft_val (fe_call F_is_claim (rm_mono hr (by rfl)) tk rfl m_is_claim k_is_claim b_is_claim (fb_cons (fe_vr (pv 0)) fb_nil)))) (fss_one (fs_ret fe_bl)) fss_nil) (fss_cons (fs_asg (fe_vr (pv 0)) (fg_tup rfl (fgs_cons (fg_name sc_accepts.nd (i := 2) rfl (Or.inl rfl)) (fgs_cons (fg_name sc_accepts.nd (i := 3) rfl (Or.inl rfl)) (fgs_cons (fg_name sc_accepts.nd (i := 4) rfl (Or.inl rfl)) fgs_nil))))) (fss_cons (fs_if (ft_cmp (o_eqA hr.u64) q_eqA (fe_vr (pv 2)) fe_str (by rfl)) (fss_one fs_never) fss_nil) (fss_cons (fs_if (ft_cmp (o_eqA hr.u64) q_eqA (fe_vr (pv 2)) fe_str (by rfl)) (fss_one fs_never) fss_nil) (fss_cons (fs_if (ft_cmp (o_eqA hr.u64) q_eqA (fe_vr (pv 2)) fe_str (by rfl)) (fss_one (fs_ret (fe_call F_shows_alike (rm_mono hr (by rfl)) tk rfl m_shows_alike k_shows_alike b_shows_alike (fb_cons (fe_vr (pv 3)) (fb_cons (fe_vr (pv 4)) (fb_cons (fe_vr (pv 1)) fb_nil)))))) fss_nil) (fss_cons (fs_if (ft_cmp (o_eqA hr.u64) q_eqA (fe_vr (pv 2)) fe_str (by rfl)) (fss_one fs_never) fss_nil) (fss_one fs_never)))))))
  exact z
theorem ok_accepts {f : Addr} {fd : FuncData} (T : Txt K mg) (Fd : Fun K "accepts" "accepts" s_accepts f fd) (hm : mg "accepts" = some (.ref f)) (C_is_claim : Cal P w K mg base 4 "is_claim" ["value"] [] G_is_claim) (C_shows_alike : Cal P w K mg base 3 "shows_alike" ["one", "other", "paper"] [] G_shows_alike) : Cal P w K mg base 5 "accepts" ["claim", "paper"] [(["paper", "claim"], 0, [1, 0])] G_accepts :=
  cal_of Fd hm (fn_accepts T Fd C_is_claim C_shows_alike) (fun _ _ _ _ _ _ us hl => match us, hl with | [_, _], _ => rfl) (kb_cons (fun _ _ _ _ _ _ us ws h1 h2 => match us, ws, h1, h2 with | [], [_, _], _, _ => rfl) kb_nil)
theorem sc__law_due : FnScope ["_law_one", "_law_other", "_law_paper"] ["_law_one", "_law_other", "_law_paper"] (defScope s__law_due) := ⟨rfl, rfl, rfl, by decide +kernel, rfl, by decide +kernel, by decide +kernel⟩
theorem fn__law_due {f : Addr} {fd : FuncData} (T : Txt K mg) (Fd : Fun K "_law_due" "_law_due" s__law_due f fd)  : FnG P w K mg base 1 f fd ["_law_one", "_law_other", "_law_paper"] (spG K 3 G__law_due) := by
  have z := fnG (P := P) (w := w) (mg := mg) (base := base) (k := 0) (N := ["_law_one", "_law_other", "_law_paper"]) (ps := ["_law_one", "_law_other", "_law_paper"]) (g := g__law_due) Fd sc__law_due fun cdv A outer s H E π W hr tk hp => by exact (fss_cons (fs_if (PW.pt (fw_or (ft_val (fe_isi (T := .bl) (by intro z; cases z) rfl T.b_isinstance rfl rfl T.b_bool (by decide +kernel) (fe_vr (pv 2)))) (fw_or (ft_cmp (o_ninA hr.u65) q_ninA (fe_vr (pv 2)) (fe_frz (fm_lst (fa_cons fe_int (fa_cons (fe_un un_neg q_neg fe_int) fa_nil)))) (by rfl)) (pw_or1 (ft_cmp (o_neA hr.u64) q_neA (fe_ix (fe_vr (pv 0)) fe_int (fun _ _ => rfl)) (fe_ix (fe_vr (pv 1)) fe_int (fun _ _ => rfl)) (by rfl)))))) (fss_one (fs_ret fe_bl)) fss_nil) (fss_cons (fs_if (ft_cmp op_lt q_cmp (fe_ix (fe_vr (pv 0)) fe_int (fun _ _ => rfl)) fe_int (by rfl)) (fss_one (fs_ret (fe_cmp (o_eqA hr.u64) q_eqA (fe_vr (pv 2)) fe_int (by rfl)))) fss_nil) (fss_one (fs_ret (fe_or (fe_cmp (o_eqA hr.u64) q_eqA (fe_bin op_modN q_mod (fe_callTy q_int call_int1 rfl T.b_int (by decide +kernel) (fa_cons (fe_bin op_sub q_sub (fe_ix (fe_vr (pv 1)) fe_int (fun _ _ => rfl)) (fe_bin o_mul q_mul (fe_vr (pv 2)) (fe_ix (fe_vr (pv 0)) fe_int (fun _ _ => rfl)))) fa_nil)) (fe_ix (fe_vr (pv 0)) fe_int (fun _ _ => rfl))) fe_int (by rfl)) (pe_one (fe_cmp (o_eqA hr.u64) q_eqA (fe_bin op_modN q_mod (fe_callTy q_int call_int1 rfl T.b_int (by decide +kernel) (fa_cons (fe_bin op_sub q_sub (fe_bin o_mul q_mul (fe_ix (fe_vr (pv 0)) fe_int (fun _ _ => rfl)) (fe_ix (fe_vr (pv 1)) fe_int (fun _ _ => rfl))) (fe_vr (pv 2))) fa_nil)) (fe_ix (fe_vr (pv 0)) fe_int (fun _ _ => rfl))) fe_int (by rfl))))))))
  exact z
theorem ok__law_due {f : Addr} {fd : FuncData} (T : Txt K mg) (Fd : Fun K "_law_due" "_law_due" s__law_due f fd) (hm : mg "_law_due" = some (.ref f))  : Cal P w K mg base 1 "_law_due" ["_law_one", "_law_other", "_law_paper"] [] G__law_due :=
  cal_of Fd hm (fn__law_due T Fd ) (fun _ _ _ _ _ _ us hl => match us, hl with | [_, _, _], _ => rfl) kb_nil
theorem sc__law_right : FnScope ["_law_spring_here", "_law_turn", "_law_one", "_law_other", "_law_p", "_law_paper", "_law_got"] ["_law_spring_here"] (defScope s__law_right) := ⟨rfl, rfl, rfl, by decide +kernel, rfl, by decide +kernel, by decide +kernel⟩
theorem fn__law_right {f : Addr} {fd : FuncData} (T : Txt K mg) (Fd : Fun K "_law_right" "_law_right" s__law_right f fd) (C__law_some_pair : Cal P w K mg base 3 "_law_some_pair" ["_law_spring_here", "_law_most"] [] G__law_some_pair) (C__law_drip : Cal P w K mg base 1 "_law_drip" ["_law_spring_here", "_law_size"] [] G__law_drip) (C__law_mate : Cal P w K mg base 3 "_law_mate" ["_law_spring_here", "_law_pair"] [] G__law_mate) (C__law_any : Cal P w K mg base 2 "_law_any" ["_law_spring_here", "_law_some"] [] G__law_any) (C__law_odd : Cal P w K mg base 3 "_law_odd" ["_law_spring_here"] [] G__law_odd) (C_accepts : Cal P w K mg base 5 "accepts" ["claim", "paper"] [(["paper", "claim"], 0, [1, 0])] G_accepts) (C__law_due : Cal P w K mg base 1 "_law_due" ["_law_one", "_law_other", "_law_paper"] [] G__law_due) : FnG P w K mg base 6 f fd ["_law_spring_here"] (spG K 1 G__law_right) := by
  obtain ⟨f__law_some_pair, fd__law_some_pair, F__law_some_pair, m__law_some_pair, k__law_some_pair, b__law_some_pair, q__law_some_pair⟩ := C__law_some_pair.ex
  obtain ⟨f__law_drip, fd__law_drip, F__law_drip, m__law_drip, k__law_drip, b__law_drip, q__law_drip⟩ := C__law_drip.ex
  obtain ⟨f__law_mate, fd__law_mate, F__law_mate, m__law_mate, k__law_mate, b__law_mate, q__law_mate⟩ := C__law_mate.ex
  obtain ⟨f__law_any, fd__law_any, F__law_any, m__law_any, k__law_any, b__law_any, q__law_any⟩ := C__law_any.ex
  obtain ⟨f__law_odd, fd__law_odd, F__law_odd, m__law_odd, k__law_odd, b__law_odd, q__law_odd⟩ := C__law_odd.ex
  obtain ⟨f_accepts, fd_accepts, F_accepts, m_accepts, k_accepts, b_accepts, q_accepts⟩ := C_accepts.ex
  obtain ⟨f__law_due, fd__law_due, F__law_due, m__law_due, k__law_due, b__law_due, q__law_due⟩ := C__law_due.ex
  have z := fnG (P := P) (w := w) (mg := mg) (base := base) (k := 5) (N := ["_law_spring_here", "_law_turn", "_law_one", "_law_other", "_law_p", "_law_paper", "_law_got"]) (ps := ["_law_spring_here"]) (g := g__law_right) Fd sc__law_right fun cdv A outer s H E π W hr tk hp => by exact (fss_cons (fs_for (ks := [6]) hp rfl (fi_range1 rfl T.b_range (fa_cons fe_int fa_nil)) (fg_name sc__law_right.nd (i := 1) rfl (Or.inl rfl)) (fss_cons (fs_set sc__law_right.nd (i := 2) rfl (Or.inl rfl) (fe_call F__law_some_pair (rm_mono hr (by rfl)) tk rfl m__law_some_pair k__law_some_pair b__law_some_pair (fb_sl (pv 0) (fb_cons fe_int fb_nil)))) (fss_cons (fs_set sc__law_right.nd (i := 3) rfl (Or.inl rfl) (fe_if (ft_cmp op_gt q_cmp (fe_call F__law_drip (rm_mono hr (by rfl)) tk rfl m__law_drip k__law_drip b__law_drip (fb_sl (pv 0) (fb_cons fe_int fb_nil))) fe_int (by rfl)) (fe_call F__law_mate (rm_mono hr (by rfl)) tk rfl m__law_mate k__law_mate b__law_mate (fb_sl (pv 0) (fb_cons (fe_vr (pv 2)) fb_nil))) (fe_call F__law_some_pair (rm_mono hr (by rfl)) tk rfl m__law_some_pair k__law_some_pair b__law_some_pair (fb_sl (pv 0) (fb_cons fe_int fb_nil))))) (fss_cons (fs_if (ft_cmp (o_eqA hr.u64) q_eqA (fe_call F__law_drip (rm_mono hr (by rfl)) tk rfl m__law_drip k__law_drip b__law_drip (fb_sl (pv 0) (fb_cons fe_int fb_nil))) fe_int (by rfl)) (fss_cons (fs_set sc__law_right.nd (i := 4) rfl (Or.inl rfl) (fe_bin o_add q_add (fe_bin op_pow q_pow fe_int fe_int) (fe_bin o_mul q_mul fe_int (fe_call F__law_drip (rm_mono hr (by rfl)) tk rfl m__law_drip k__law_drip b__law_drip (fb_sl (pv 0) (fb_cons fe_int fb_nil)))))) (fss_one (fs_par rfl sc__law_right.nd (i := 2) (j := 3) rfl rfl (by decide) rfl rfl (fa_cons (fe_tup (fa_cons (fe_vr (pv 4)) (fa_cons (fe_bin op_sub q_sub (fe_vr (pv 4)) fe_int) fa_nil))) (fa_cons (fe_call F__law_any (rm_mono hr (by rfl)) tk rfl m__law_any k__law_any b__law_any (fb_sl (pv 0) (fb_cons (fe_frz (fm_lst (fa_cons (fe_tup (fa_cons (fe_vr (pv 4)) (fa_cons fe_int fa_nil))) (fa_cons (fe_tup (fa_cons (fe_vr (pv 4)) (fa_cons (fe_bin op_sub q_sub (fe_vr (pv 4)) fe_int) fa_nil))) fa_nil)))) fb_nil))) fa_nil)) (by rfl)))) fss_nil) (fss_cons (fs_set sc__law_right.nd (i := 5) rfl (Or.inl rfl) (fe_call F__law_any (rm_mono hr (by rfl)) tk rfl m__law_any k__law_any b__law_any (fb_sl (pv 0) (fb_cons (fe_frz (fm_lst (fa_cons fe_int (fa_cons (fe_un un_neg q_neg fe_int) (fa_cons fe_int (fa_cons (fe_un un_neg q_neg fe_int) (fa_cons fe_int (fa_cons (fe_un un_neg q_neg fe_int) (fa_cons (fe_call F__law_odd (rm_mono hr (by rfl)) tk rfl m__law_odd k__law_odd b__law_odd (fb_sl (pv 0) fb_nil)) fa_nil))))))))) fb_nil)))) (fss_cons (fs_setM sc__law_right.nd (i := 6) rfl (Or.inl rfl) (fm_lst (fa_cons (fe_call F_accepts (rm_mono hr (by rfl)) tk rfl m_accepts k_accepts b_accepts (fb_cons (fe_tup (fa_cons fe_str (fa_cons (fe_vr (pv 2)) (fa_cons (fe_vr (pv 3)) fa_nil)))) (fb_cons (fe_vr (pv 5)) fb_nil))) fa_nil))) (fss_cons (fs_append (pv 6) (fe_callK0 F_accepts (rm_mono hr (by rfl)) tk rfl m_accepts k_accepts (q_accepts _ List.mem_cons_self) (fk_cons (fe_vr (pv 5)) (fk_cons (fe_tup (fa_cons fe_str (fa_cons (fe_vr (pv 2)) (fa_cons (fe_vr (pv 3)) fa_nil)))) fk_nil)))) (fss_frz (i := 6) (fss_one (fs_if (ft_cmp (o_neA hr.u64) q_neA (fe_callB q_repr (o_repr hr.g hr.u64) rfl T.b_repr (by decide +kernel) (fa_cons (fe_vr (pv 6)) fa_nil)) (fe_callB q_repr (o_repr hr.g hr.u64) rfl T.b_repr (by decide +kernel) (fa_cons (fe_bin o_mul q_mul (fe_frz (fm_lst (fa_cons (fe_call F__law_due (rm_mono hr (by rfl)) tk rfl m__law_due k__law_due b__law_due (fb_cons (fe_vr (pv 2)) (fb_cons (fe_vr (pv 3)) (fb_cons (fe_vr (pv 5)) fb_nil)))) fa_nil))) fe_int) fa_nil)) (by rfl)) (fss_one (fs_ret fe_bl)) fss_nil)))))))))) (fss_one (fs_ret fe_bl)))
  exact z
theorem ok__law_right {f : Addr} {fd : FuncData} (T : Txt K mg) (Fd : Fun K "_law_right" "_law_right" s__law_right f fd) (hm : mg "_law_right" = some (.ref f)) (C__law_some_pair : Cal P w K mg base 3 "_law_some_pair" ["_law_spring_here", "_law_most"] [] G__law_some_pair) (C__law_drip : Cal P w K mg base 1 "_law_drip" ["_law_spring_here", "_law_size"] [] G__law_drip) (C__law_mate : Cal P w K mg base 3 "_law_mate" ["_law_spring_here", "_law_pair"] [] G__law_mate) (C__law_any : Cal P w K mg base 2 "_law_any" ["_law_spring_here", "_law_some"] [] G__law_any) (C__law_odd : Cal P w K mg base 3 "_law_odd" ["_law_spring_here"] [] G__law_odd) (C_accepts : Cal P w K mg base 5 "accepts" ["claim", "paper"] [(["paper", "claim"], 0, [1, 0])] G_accepts) (C__law_due : Cal P w K mg base 1 "_law_due" ["_law_one", "_law_other", "_law_paper"] [] G__law_due) : Cal P w K mg base 6 "_law_right" ["_law_spring_here"] [] G__law_right :=
  cal_of Fd hm (fn__law_right T Fd C__law_some_pair C__law_drip C__law_mate C__law_any C__law_odd C_accepts C__law_due) (fun _ _ _ _ _ _ us hl => match us, hl with | [_], _ => rfl) kb_nil
theorem sc__law_spring : FnScope ["_law_script", "_law_turn", "_law_mixed", "_law_each", "_law_own", "_law_held"] ["_law_script", "_law_turn"] (defScope s__law_spring) := ⟨rfl, rfl, rfl, by decide +kernel, rfl, by decide +kernel, by decide +kernel⟩
theorem fn__law_spring {f : Addr} {fd : FuncData} (T : Txt K mg) (Fd : Fun K "_law_spring" "_law_spring" s__law_spring f fd)  : FnG P w K mg base 1 f fd ["_law_script", "_law_turn"] (spG K 2 G__law_spring) := by
  have z := fnG (P := P) (w := w) (mg := mg) (base := base) (k := 0) (N := ["_law_script", "_law_turn", "_law_mixed", "_law_each", "_law_own", "_law_held"]) (ps := ["_law_script", "_law_turn"]) (g := g__law_spring) Fd sc__law_spring fun cdv A outer s H E π W hr tk hp => by exact (fss_cons (fs_set sc__law_spring.nd (i := 2) rfl (Or.inl rfl) (fe_bin o_add q_add fe_int (fe_bin o_mul q_mul fe_int (fe_vr (pv 1))))) (fss_cons (fs_for (ks := []) hp rfl (fi_seq (fe_sl (fe_vr (pv 0)) fo_none (fo_some fe_int))) (fg_name sc__law_spring.nd (i := 3) rfl (Or.inl rfl)) (fss_one (fs_set sc__law_spring.nd (i := 2) rfl (Or.inl rfl) (fe_bin op_modN q_mod (fe_callTy q_int call_int1 rfl T.b_int (by decide +kernel) (fa_cons (fe_bin o_add q_add (fe_bin o_add q_add (fe_bin o_mul q_mul (fe_vr (pv 2)) fe_int) (fe_bin o_mul q_mul (fe_callTy q_int call_int1 rfl T.b_int (by decide +kernel) (fa_cons (fe_vr (pv 3)) fa_nil)) fe_int)) fe_int) fa_nil)) fe_int)))) (fss_cons (fs_set sc__law_spring.nd (i := 4) rfl (Or.inl rfl) (fe_if (ft_cmp op_lt q_cmp (fe_vr (pv 1)) (fe_callB q_len o_len rfl T.b_len (by decide +kernel) (fa_cons (fe_vr (pv 0)) fa_nil)) (by rfl)) (fe_callTy q_int call_int1 rfl T.b_int (by decide +kernel) (fa_cons (fe_ix (fe_vr (pv 0)) (fe_vr (pv 1)) (fun _ _ => rfl)) fa_nil)) (fe_bin o_add q_add (fe_bin o_mul q_mul fe_int (fe_vr (pv 1))) fe_int))) (fss_cons (fs_set sc__law_spring.nd (i := 5) rfl (Or.inl rfl) (fe_if (PW.pt (fw_or (ft_cmp op_lt q_cmp (fe_vr (pv 4)) fe_int (by rfl)) (pw_or1 (ft_cmp op_ge q_cmp (fe_vr (pv 4)) (fe_bin op_pow q_pow fe_int fe_int) (by rfl))))) (fe_callB q_abs call_abs rfl T.b_abs (by decide +kernel) (fa_cons (fe_vr (pv 4)) fa_nil)) fe_int)) (fss_one (fs_retM (fm_lst (fa_cons (fe_vr (pv 5)) (fa_cons (fe_bin op_modN q_mod (fe_callTy q_int call_int1 rfl T.b_int (by decide +kernel) (fa_cons (fe_bin o_add q_add (fe_bin o_mul q_mul (fe_vr (pv 2)) fe_int) (fe_vr (pv 4))) fa_nil)) fe_int) (fa_cons fe_int fa_nil))))))))))
  exact z
theorem ok__law_spring {f : Addr} {fd : FuncData} (T : Txt K mg) (Fd : Fun K "_law_spring" "_law_spring" s__law_spring f fd) (hm : mg "_law_spring" = some (.ref f))  : Cal P w K mg base 1 "_law_spring" ["_law_script", "_law_turn"] [] G__law_spring :=
  cal_of Fd hm (fn__law_spring T Fd ) (fun _ _ _ _ _ _ us hl => match us, hl with | [_, _], _ => rfl) kb_nil
theorem sc_law : FnScope ["_law_script", "_law_turn"] ["_law_script"] (defScope s_law) := ⟨rfl, rfl, rfl, by decide +kernel, rfl, by decide +kernel, by decide +kernel⟩
theorem fn_law {f : Addr} {fd : FuncData} (T : Txt K mg) (Fd : Fun K "law" "law" s_law f fd) (C__law_right : Cal P w K mg base 6 "_law_right" ["_law_spring_here"] [] G__law_right) (C__law_spring : Cal P w K mg base 1 "_law_spring" ["_law_script", "_law_turn"] [] G__law_spring) : FnG P w K mg base 7 f fd ["_law_script"] (spG K 1 G_law) := by
  obtain ⟨f__law_right, fd__law_right, F__law_right, m__law_right, k__law_right, b__law_right, q__law_right⟩ := C__law_right.ex
  obtain ⟨f__law_spring, fd__law_spring, F__law_spring, m__law_spring, k__law_spring, b__law_spring, q__law_spring⟩ := C__law_spring.ex
  have z := fnG (P := P) (w := w) (mg := mg) (base := base) (k := 6) (N := ["_law_script", "_law_turn"]) (ps := ["_law_script"]) (g := g_law) Fd sc_law fun cdv A outer s H E π W hr tk hp => by exact (fss_one (fs_ret (fe_callB q_all (cr_all rfl) rfl T.b_all (by decide +kernel) (fa_cons (fe_frz (fm_lc (own := [("_law_turn", 1)]) rfl sc_law.nd (fi_range1 rfl T.b_range (fa_cons (fe_callB q_max (call_max2 rfl) rfl T.b_max (by decide +kernel) (fa_cons fe_int (fa_cons (fe_callB q_min (call_min2 rfl) rfl T.b_min (by decide +kernel) (fa_cons (fe_callB q_len o_len rfl T.b_len (by decide +kernel) (fa_cons (fe_vr (pv 0)) fa_nil)) (fa_cons fe_int fa_nil))) fa_nil))) fa_nil)) (show BlkOk ["_law_script", "_law_turn"] (defScope s_law) _ _ from blkOk_by (by decide +kernel)) (fun _ _ _ _ _ => (fg_name sc_law.nd (i := 1) rfl (Or.inl rfl))) (fun _ _ _ _ _ => pts_non) (fun _ _ _ _ _ => (fe_callF F__law_right rfl (rm_mono hr (by rfl)) takes_0 rfl m__law_right k__law_right b__law_right (fm_call F__law_spring (rm_mono hr (by rfl)) takes_0 rfl m__law_spring k__law_spring b__law_spring (fb_cons (fe_vr (pv 0)) (fb_cons (fe_vr (pv 1)) fb_nil))))) (by decide))) fa_nil))))
  exact z
end
theorem all_mk {l : PySem.W.OpenLaw} {w : World} {K : PySem.W.Frag} {h : Heap} {mg : Str → Option Value} {fa : Addr} (hq : ∀ ns : List Int, ns.length ≤ 63 → G_law [.val (.scr ns)] = .ok (.v (.bl true)) []) (X : K.In h) (G : h.Ns mainGlobals mg) (hfa : mg "law" = some (.ref fa))
    {f1 f2 f3 f4 f5 f6 f7 f8 f9 f10 f11 f12 f13 f14 f15 f16 f17 f18 : Addr} {od1 an1 od2 an2 od3 an3 od4 an4 od5 an5 od6 an6 od7 an7 od8 an8 od9 an9 od10 an10 od11 an11 od12 an12 od13 an13 od14 an14 od15 an15 od16 an16 od17 an17 od18 an18 : Option Addr} {sl1 sl2 sl3 sl4 sl5 sl6 sl7 sl8 sl9 sl10 sl11 sl12 sl13 sl14 sl15 sl16 sl17 sl18 : Array (Option Value)} {oc1 kV1 dc1 pm1 cd1 ct1 oc2 kV2 dc2 pm2 cd2 ct2 oc3 kV3 dc3 pm3 cd3 ct3 oc4 kV4 dc4 pm4 cd4 ct4 oc5 kV5 dc5 pm5 cd5 ct5 oc6 kV6 dc6 pm6 cd6 ct6 oc7 kV7 dc7 pm7 cd7 ct7 oc8 kV8 dc8 pm8 cd8 ct8 oc9 kV9 dc9 pm9 cd9 ct9 oc10 kV10 dc10 pm10 cd10 ct10 oc11 kV11 dc11 pm11 cd11 ct11 oc12 kV12 dc12 pm12 cd12 ct12 oc13 kV13 dc13 pm13 cd13 ct13 oc14 kV14 dc14 pm14 cd14 ct14 oc15 kV15 dc15 pm15 cd15 ct15 oc16 kV16 dc16 pm16 cd16 ct16 oc17 kV17 dc17 pm17 cd17 ct17 oc18 kV18 dc18 pm18 cd18 ct18 : Value}
    (a1 : PySem.W.nsIn K mainGlobals "_law_drip" = some (some (.ref f1))) (l1 : K.lookup f1 = some ⟨oc1, od1, .func (PySem.W.fnOf "_law_drip" "_law_drip" (defArgs s__law_drip) (defBody s__law_drip) (defScope s__law_drip) .none kV1 dc1 pm1 an1 cd1 ct1), sl1⟩) (c1 : PySem.W.codeIn K cd1 "_law_drip" = true) (k1 : PySem.W.keepIn K (.ref f1) = true)
    (a2 : PySem.W.nsIn K mainGlobals "_law_any" = some (some (.ref f2))) (l2 : K.lookup f2 = some ⟨oc2, od2, .func (PySem.W.fnOf "_law_any" "_law_any" (defArgs s__law_any) (defBody s__law_any) (defScope s__law_any) .none kV2 dc2 pm2 an2 cd2 ct2), sl2⟩) (c2 : PySem.W.codeIn K cd2 "_law_any" = true) (k2 : PySem.W.keepIn K (.ref f2) = true)
    (a3 : PySem.W.nsIn K mainGlobals "_law_gcd" = some (some (.ref f3))) (l3 : K.lookup f3 = some ⟨oc3, od3, .func (PySem.W.fnOf "_law_gcd" "_law_gcd" (defArgs s__law_gcd) (defBody s__law_gcd) (defScope s__law_gcd) .none kV3 dc3 pm3 an3 cd3 ct3), sl3⟩) (c3 : PySem.W.codeIn K cd3 "_law_gcd" = true) (k3 : PySem.W.keepIn K (.ref f3) = true)
    (a4 : PySem.W.nsIn K mainGlobals "_law_some_pair" = some (some (.ref f4))) (l4 : K.lookup f4 = some ⟨oc4, od4, .func (PySem.W.fnOf "_law_some_pair" "_law_some_pair" (defArgs s__law_some_pair) (defBody s__law_some_pair) (defScope s__law_some_pair) .none kV4 dc4 pm4 an4 cd4 ct4), sl4⟩) (c4 : PySem.W.codeIn K cd4 "_law_some_pair" = true) (k4 : PySem.W.keepIn K (.ref f4) = true)
    (a5 : PySem.W.nsIn K mainGlobals "_law_mate" = some (some (.ref f5))) (l5 : K.lookup f5 = some ⟨oc5, od5, .func (PySem.W.fnOf "_law_mate" "_law_mate" (defArgs s__law_mate) (defBody s__law_mate) (defScope s__law_mate) .none kV5 dc5 pm5 an5 cd5 ct5), sl5⟩) (c5 : PySem.W.codeIn K cd5 "_law_mate" = true) (k5 : PySem.W.keepIn K (.ref f5) = true)
    (a6 : PySem.W.nsIn K mainGlobals "_law_odd" = some (some (.ref f6))) (l6 : K.lookup f6 = some ⟨oc6, od6, .func (PySem.W.fnOf "_law_odd" "_law_odd" (defArgs s__law_odd) (defBody s__law_odd) (defScope s__law_odd) .none kV6 dc6 pm6 an6 cd6 ct6), sl6⟩) (c6 : PySem.W.codeIn K cd6 "_law_odd" = true) (k6 : PySem.W.keepIn K (.ref f6) = true)
    (a7 : PySem.W.nsIn K mainGlobals "is_integer" = some (some (.ref f7))) (l7 : K.lookup f7 = some ⟨oc7, od7, .func (PySem.W.fnOf "is_integer" "is_integer" (defArgs s_is_integer) (defBody s_is_integer) (defScope s_is_integer) .none kV7 dc7 pm7 an7 cd7 ct7), sl7⟩) (c7 : PySem.W.codeIn K cd7 "is_integer" = true) (k7 : PySem.W.keepIn K (.ref f7) = true)
    (a8 : PySem.W.nsIn K mainGlobals "common" = some (some (.ref f8))) (l8 : K.lookup f8 = some ⟨oc8, od8, .func (PySem.W.fnOf "common" "common" (defArgs s_common) (defBody s_common) (defScope s_common) .none kV8 dc8 pm8 an8 cd8 ct8), sl8⟩) (c8 : PySem.W.codeIn K cd8 "common" = true) (k8 : PySem.W.keepIn K (.ref f8) = true)
    (a9 : PySem.W.nsIn K mainGlobals "is_pair" = some (some (.ref f9))) (l9 : K.lookup f9 = some ⟨oc9, od9, .func (PySem.W.fnOf "is_pair" "is_pair" (defArgs s_is_pair) (defBody s_is_pair) (defScope s_is_pair) .none kV9 dc9 pm9 an9 cd9 ct9), sl9⟩) (c9 : PySem.W.codeIn K cd9 "is_pair" = true) (k9 : PySem.W.keepIn K (.ref f9) = true)
    (a10 : PySem.W.nsIn K mainGlobals "are_same_size" = some (some (.ref f10))) (l10 : K.lookup f10 = some ⟨oc10, od10, .func (PySem.W.fnOf "are_same_size" "are_same_size" (defArgs s_are_same_size) (defBody s_are_same_size) (defScope s_are_same_size) .none kV10 dc10 pm10 an10 cd10 ct10), sl10⟩) (c10 : PySem.W.codeIn K cd10 "are_same_size" = true) (k10 : PySem.W.keepIn K (.ref f10) = true)
    (a11 : PySem.W.nsIn K mainGlobals "is_claim" = some (some (.ref f11))) (l11 : K.lookup f11 = some ⟨oc11, od11, .func (PySem.W.fnOf "is_claim" "is_claim" (defArgs s_is_claim) (defBody s_is_claim) (defScope s_is_claim) .none kV11 dc11 pm11 an11 cd11 ct11), sl11⟩) (c11 : PySem.W.codeIn K cd11 "is_claim" = true) (k11 : PySem.W.keepIn K (.ref f11) = true)
    (a12 : PySem.W.nsIn K mainGlobals "is_sign" = some (some (.ref f12))) (l12 : K.lookup f12 = some ⟨oc12, od12, .func (PySem.W.fnOf "is_sign" "is_sign" (defArgs s_is_sign) (defBody s_is_sign) (defScope s_is_sign) .none kV12 dc12 pm12 an12 cd12 ct12), sl12⟩) (c12 : PySem.W.codeIn K cd12 "is_sign" = true) (k12 : PySem.W.keepIn K (.ref f12) = true)
    (a13 : PySem.W.nsIn K mainGlobals "shows_alike" = some (some (.ref f13))) (l13 : K.lookup f13 = some ⟨oc13, od13, .func (PySem.W.fnOf "shows_alike" "shows_alike" (defArgs s_shows_alike) (defBody s_shows_alike) (defScope s_shows_alike) .none kV13 dc13 pm13 an13 cd13 ct13), sl13⟩) (c13 : PySem.W.codeIn K cd13 "shows_alike" = true) (k13 : PySem.W.keepIn K (.ref f13) = true)
    (a14 : PySem.W.nsIn K mainGlobals "accepts" = some (some (.ref f14))) (l14 : K.lookup f14 = some ⟨oc14, od14, .func (PySem.W.fnOf "accepts" "accepts" (defArgs s_accepts) (defBody s_accepts) (defScope s_accepts) .none kV14 dc14 pm14 an14 cd14 ct14), sl14⟩) (c14 : PySem.W.codeIn K cd14 "accepts" = true) (k14 : PySem.W.keepIn K (.ref f14) = true)
    (a15 : PySem.W.nsIn K mainGlobals "_law_due" = some (some (.ref f15))) (l15 : K.lookup f15 = some ⟨oc15, od15, .func (PySem.W.fnOf "_law_due" "_law_due" (defArgs s__law_due) (defBody s__law_due) (defScope s__law_due) .none kV15 dc15 pm15 an15 cd15 ct15), sl15⟩) (c15 : PySem.W.codeIn K cd15 "_law_due" = true) (k15 : PySem.W.keepIn K (.ref f15) = true)
    (a16 : PySem.W.nsIn K mainGlobals "_law_right" = some (some (.ref f16))) (l16 : K.lookup f16 = some ⟨oc16, od16, .func (PySem.W.fnOf "_law_right" "_law_right" (defArgs s__law_right) (defBody s__law_right) (defScope s__law_right) .none kV16 dc16 pm16 an16 cd16 ct16), sl16⟩) (c16 : PySem.W.codeIn K cd16 "_law_right" = true) (k16 : PySem.W.keepIn K (.ref f16) = true)
    (a17 : PySem.W.nsIn K mainGlobals "_law_spring" = some (some (.ref f17))) (l17 : K.lookup f17 = some ⟨oc17, od17, .func (PySem.W.fnOf "_law_spring" "_law_spring" (defArgs s__law_spring) (defBody s__law_spring) (defScope s__law_spring) .none kV17 dc17 pm17 an17 cd17 ct17), sl17⟩) (c17 : PySem.W.codeIn K cd17 "_law_spring" = true) (k17 : PySem.W.keepIn K (.ref f17) = true)
    (a18 : PySem.W.nsIn K mainGlobals "law" = some (some (.ref f18))) (l18 : K.lookup f18 = some ⟨oc18, od18, .func (PySem.W.fnOf "law" "law" (defArgs s_law) (defBody s_law) (defScope s_law) .none kV18 dc18 pm18 an18 cd18 ct18), sl18⟩) (c18 : PySem.W.codeIn K cd18 "law" = true) (k18 : PySem.W.keepIn K (.ref f18) = true)
    (z_abs : PySem.W.nsIn K mainGlobals "abs" = some none)
    (z_all : PySem.W.nsIn K mainGlobals "all" = some none)
    (z_bool : PySem.W.nsIn K mainGlobals "bool" = some none)
    (z_divmod : PySem.W.nsIn K mainGlobals "divmod" = some none)
    (z_int : PySem.W.nsIn K mainGlobals "int" = some none)
    (z_isinstance : PySem.W.nsIn K mainGlobals "isinstance" = some none)
    (z_len : PySem.W.nsIn K mainGlobals "len" = some none)
    (z_max : PySem.W.nsIn K mainGlobals "max" = some none)
    (z_min : PySem.W.nsIn K mainGlobals "min" = some none)
    (z_range : PySem.W.nsIn K mainGlobals "range" = some none)
    (z_repr : PySem.W.nsIn K mainGlobals "repr" = some none)
    (z_str : PySem.W.nsIn K mainGlobals "str" = some none)
    (z_tuple : PySem.W.nsIn K mainGlobals "tuple" = some none)
    {ta_OF_PAIRS : Addr} {td_OF_PAIRS : Option Addr} {tn_OF_PAIRS : Nat} {ts_OF_PAIRS : Array (Option Value)} {tt_OF_PAIRS_0 tt_OF_PAIRS_1 tt_OF_PAIRS_2 : Tok}
    (x_OF_PAIRS : PySem.W.nsIn K mainGlobals "OF_PAIRS" = some (some (.ref ta_OF_PAIRS))) (v_OF_PAIRS : K.lookup ta_OF_PAIRS = some ⟨.type "tuple", td_OF_PAIRS, .seq #[.str "alike" tt_OF_PAIRS_0, .str "for loops" tt_OF_PAIRS_1, .str "not for loops" tt_OF_PAIRS_2] tn_OF_PAIRS, ts_OF_PAIRS⟩)
    {ta_OF_STRINGS : Addr} {td_OF_STRINGS : Option Addr} {tn_OF_STRINGS : Nat} {ts_OF_STRINGS : Array (Option Value)} {tt_OF_STRINGS_0 tt_OF_STRINGS_1 : Tok}
    (x_OF_STRINGS : PySem.W.nsIn K mainGlobals "OF_STRINGS" = some (some (.ref ta_OF_STRINGS))) (v_OF_STRINGS : K.lookup ta_OF_STRINGS = some ⟨.type "tuple", td_OF_STRINGS, .seq #[.str "led" tt_OF_STRINGS_0, .str "apart" tt_OF_STRINGS_1] tn_OF_STRINGS, ts_OF_STRINGS⟩)
    : ∃ fd : FuncData, (∀ (s : Shared) (v : Value), BindsTo s fd ⟨[v], []⟩ [("_law_script", v)]) ∧ (∀ base : Heap, K.In base → base.Ns mainGlobals mg → FnG l.prog w K mg base 7 fa fd ["_law_script"] (spG K 1 G_law)) ∧ ∀ ns : List Int, ns.length ≤ 63 → G_law [.val (.scr ns)] = .ok (.v (.bl true)) [] := by
  have e := hfa.symm.trans (PySem.W.mg_of X G a18)
  cases e
  have T : Txt K mg := ⟨PySem.W.mg_none_of X G z_abs, PySem.W.mg_none_of X G z_all, PySem.W.mg_none_of X G z_bool, PySem.W.mg_none_of X G z_divmod, PySem.W.mg_none_of X G z_int, PySem.W.mg_none_of X G z_isinstance, PySem.W.mg_none_of X G z_len, PySem.W.mg_none_of X G z_max, PySem.W.mg_none_of X G z_min, PySem.W.mg_none_of X G z_range, PySem.W.mg_none_of X G z_repr, PySem.W.mg_none_of X G z_str, PySem.W.mg_none_of X G z_tuple, ⟨ta_OF_PAIRS, PySem.W.mg_of X G x_OF_PAIRS, fun F => .inr ⟨_, _, _, v_OF_PAIRS, rfl, rfl, le_line (by decide : 3 ≤ 100000), .cons ⟨_, rfl⟩ (.cons ⟨_, rfl⟩ (.cons ⟨_, rfl⟩ (.nil)))⟩⟩, ⟨ta_OF_STRINGS, PySem.W.mg_of X G x_OF_STRINGS, fun F => .inr ⟨_, _, _, v_OF_STRINGS, rfl, rfl, le_line (by decide : 2 ≤ 100000), .cons ⟨_, rfl⟩ (.cons ⟨_, rfl⟩ (.nil))⟩⟩⟩
  have F1 := fun_mk (st := s__law_drip) l1 c1 k1
  have F2 := fun_mk (st := s__law_any) l2 c2 k2
  have F3 := fun_mk (st := s__law_gcd) l3 c3 k3
  have F4 := fun_mk (st := s__law_some_pair) l4 c4 k4
  have F5 := fun_mk (st := s__law_mate) l5 c5 k5
  have F6 := fun_mk (st := s__law_odd) l6 c6 k6
  have F7 := fun_mk (st := s_is_integer) l7 c7 k7
  have F8 := fun_mk (st := s_common) l8 c8 k8
  have F9 := fun_mk (st := s_is_pair) l9 c9 k9
  have F10 := fun_mk (st := s_are_same_size) l10 c10 k10
  have F11 := fun_mk (st := s_is_claim) l11 c11 k11
  have F12 := fun_mk (st := s_is_sign) l12 c12 k12
  have F13 := fun_mk (st := s_shows_alike) l13 c13 k13
  have F14 := fun_mk (st := s_accepts) l14 c14 k14
  have F15 := fun_mk (st := s__law_due) l15 c15 k15
  have F16 := fun_mk (st := s__law_right) l16 c16 k16
  have F17 := fun_mk (st := s__law_spring) l17 c17 k17
  have F18 := fun_mk (st := s_law) l18 c18 k18
  refine ⟨PySem.W.fnOf "law" "law" (defArgs s_law) (defBody s_law) (defScope s_law) .none kV18 dc18 pm18 an18 cd18 ct18, fun s v => .of_eq rfl, fun base _ _ => ?_, hq⟩
  have C1 := ok__law_drip (P := l.prog) (w := w) (base := base) T F1 (PySem.W.mg_of X G a1) 
  have C2 := ok__law_any (P := l.prog) (w := w) (base := base) T F2 (PySem.W.mg_of X G a2) C1
  have C3 := ok__law_gcd (P := l.prog) (w := w) (base := base) T F3 (PySem.W.mg_of X G a3) 
  have C4 := ok__law_some_pair (P := l.prog) (w := w) (base := base) T F4 (PySem.W.mg_of X G a4) C1 C2 C3
  have C5 := ok__law_mate (P := l.prog) (w := w) (base := base) T F5 (PySem.W.mg_of X G a5) C2 C3
  have C6 := ok__law_odd (P := l.prog) (w := w) (base := base) T F6 (PySem.W.mg_of X G a6) C2
  have C7 := ok_is_integer (P := l.prog) (w := w) (base := base) T F7 (PySem.W.mg_of X G a7) 
  have C8 := ok_common (P := l.prog) (w := w) (base := base) T F8 (PySem.W.mg_of X G a8) 
  have C9 := ok_is_pair (P := l.prog) (w := w) (base := base) T F9 (PySem.W.mg_of X G a9) C7 C8
  have C10 := ok_are_same_size (P := l.prog) (w := w) (base := base) T F10 (PySem.W.mg_of X G a10) C9
  have C11 := ok_is_claim (P := l.prog) (w := w) (base := base) T F11 (PySem.W.mg_of X G a11) C10
  have C12 := ok_is_sign (P := l.prog) (w := w) (base := base) T F12 (PySem.W.mg_of X G a12) C7
  have C13 := ok_shows_alike (P := l.prog) (w := w) (base := base) T F13 (PySem.W.mg_of X G a13) C12
  have C14 := ok_accepts (P := l.prog) (w := w) (base := base) T F14 (PySem.W.mg_of X G a14) C11 C13
  have C15 := ok__law_due (P := l.prog) (w := w) (base := base) T F15 (PySem.W.mg_of X G a15) 
  have C16 := ok__law_right (P := l.prog) (w := w) (base := base) T F16 (PySem.W.mg_of X G a16) C4 C1 C5 C2 C6 C14 C15
  have C17 := ok__law_spring (P := l.prog) (w := w) (base := base) T F17 (PySem.W.mg_of X G a17) 
  exact fn_law T F18 C16 C17
end Wk
namespace Wk
open PySem PySem.Spec PyProof.Rows L2 FL
/-- a spring that was drawn from at most n times -/
def Sp (n : Nat) (s : M) : Prop := ∃ h m c : Int, s = .lst [.int h, .int m, .int c] ∧ 0 ≤ c ∧ c ≤ n
theorem Sp.mono {m n : Nat} {s : M} (h : Sp m s) (l : m ≤ n) : Sp n s := by
  obtain ⟨a, b, c, e, h0, h1⟩ := h
  exact ⟨a, b, c, e, h0, by omega⟩
theorem drip_ok {n : Nat} {s : M} (hs : Sp n s) {k : Int} (h0 : 0 < k) (h1 : k < 1073741824) (hn : n ≤ 1000000000) : ∃ (d : Int) (s' : M), G__law_drip [.io s, .val (.int k)] = .ok (.v (.int d)) [s'] ∧ 0 ≤ d ∧ d < k ∧ Sp (n + 1) s' := by
  obtain ⟨h, m, c, rfl, c0, c1⟩ := hs
  have i2 : ixN 3 2 = some 2 := rfl
  have i1 : ixN 3 1 = some 1 := rfl
  have i0 : ixN 3 0 = some 0 := rfl
  have a2 : ∀ x y z : D, atI [x, y, z] 2 = some z := fun _ _ _ => rfl
  have a1 : ∀ x y z : D, atI [x, y, z] 1 = some y := fun _ _ _ => rfl
  have a0 : ∀ x y z : D, atI [x, y, z] 0 = some x := fun _ _ _ => rfl
  by_cases hp : 0 < h
  · refine ⟨h % k, .lst [.int (h / k), .int m, .int (c + 1)], ?_, Int.emod_nonneg _ (by omega), Int.emod_lt_of_pos _ h0, _, _, _, rfl, by omega, by omega⟩
    simp only [G__law_drip, g__law_drip, g__law_drip_1, g__law_drip_2, g__law_drip_3, g__law_drip_4, seqS_eq, nxS, bkS, ctS, nxt_nx, nxt_rt, nxt_bk, nxt_ct, ifS_eq, ifE_eq, brR_t, brR_f, brR_dec, anT_eq, orT_eq, anE_eq, orE_eq, tst_eq, isB_bl, ↓R.bind_bd, R.bd_ok, R.of_some, noT, blE, vr, cst, op1, op2, setS, setR, nxO, asgS, tupG, cnsG, nilG, nmG, subGO, subG, subS, getM, ixM, putO, cnsA, nilA, dTup, dLst, frz, retS, retM, setM, exS, mutS, appO, opC, callE, callM, callG_eq, cnsB, nilB, slB, kwB, ioM, toArgs, okA, slsA, nodN, argG_some, goG_ok, asE, asM, putA, newM, putM, parS, par3S, frzS, frzAt, bindO, endR_rt, endR_nx, endG, FL.collect, bodyG_eq, rho0, toS, wipeR, FL.pick, tru, truD, chn, lenM, isiD, typD, isTy,   List.getElem?_cons_zero, List.getElem?_cons_succ, List.getElem?_nil, List.set_cons_zero, List.set_cons_succ, List.set_nil, List.length_cons, List.length_nil, List.mapIdx_cons, List.mapIdx_nil, List.map_cons, List.map_nil, List.replicate_succ, List.replicate_zero, List.cons_append, List.nil_append, List.append_nil, List.foldl_cons, List.foldl_nil, List.filterMap_cons, List.filterMap_nil, Option.map_some, Option.map_none, Option.bind_some, Option.bind_none, Bool.not_true, Bool.not_false, Bool.and_true, Bool.true_and, Bool.or_true, Bool.and_self, if_true, if_false,   eqA_int, neA_int, eqA_str, neA_str, ltD_int, leD_int, gtD_int, geD_int, addD_int, subD_int, negD_int, absC_int, intC_int, maxC_int, minC_int, lenC_lst, lenC_tup, lenC_scr, Int.cast_ofNat_Int, Int.natCast_zero, Int.natCast_one,   ↓reduceIte, Nat.reduceAdd, Nat.reduceSub, Nat.reduceMul, Nat.reduceLT, Nat.reduceLeDiff, Nat.reduceBEq, Nat.reduceBneDiff, Nat.reduceEqDiff, Nat.reducePow, Int.reduceLT, Int.reduceLE, Int.reduceEq, Int.reduceNe, Int.reduceAdd, Int.reduceSub, Int.reduceMul, Int.reduceNeg, Int.reducePow, Int.reduceToNat, decide_true, decide_false, decide_eq_true_eq, Bool.false_eq_true, List.contains_nil, List.contains_cons, Bool.or_false, Bool.or_self, eq_self, and_self, and_true, true_and, i0, i1, i2, a0, a1, a2, dmC_pos h0 h1, hp]
  · have m1 : mulD (.int 6271) (.int (c + 1)) = some (.int (6271 * (c + 1))) := mulD_l (by decide)
    have m2 : mulD (.int 5) (.int (c + 1)) = some (.int (5 * (c + 1))) := mulD_l (by decide)
    have m3 : mulD (.int (5 * (c + 1))) (.int (c + 1)) = some (.int (5 * (c + 1) * (c + 1))) := mulD_r (by omega)
    have m4 : mulD (.int m) (.int 39119) = some (.int (m * 39119)) := mulD_r (by decide)
    have f1 : ∀ x : Int, modD (.int x) (.int 2147483543) = some (.int (x % 2147483543)) := fun x => modD_pos (by decide)
    have f2 : ∀ x : Int, modD (.int x) (.int k) = some (.int (x % k)) := fun x => modD_pos h0
    have f3 : ∀ x : Int, fdivD (.int x) (.int 3079) = some (.int (x / 3079)) := fun x => fdivD_pos (by decide) (by decide)
    refine ⟨(m * 39119 + (6271 * (c + 1) + 5 * (c + 1) * (c + 1))) % 2147483543 / 3079 % k, .lst [.int h, .int ((m * 39119 + (6271 * (c + 1) + 5 * (c + 1) * (c + 1))) % 2147483543), .int (c + 1)], ?_, Int.emod_nonneg _ (by omega), Int.emod_lt_of_pos _ h0, _, _, _, rfl, by omega, by omega⟩
    simp only [G__law_drip, g__law_drip, g__law_drip_1, g__law_drip_2, g__law_drip_3, g__law_drip_4, seqS_eq, nxS, bkS, ctS, nxt_nx, nxt_rt, nxt_bk, nxt_ct, ifS_eq, ifE_eq, brR_t, brR_f, brR_dec, anT_eq, orT_eq, anE_eq, orE_eq, tst_eq, isB_bl, ↓R.bind_bd, R.bd_ok, R.of_some, noT, blE, vr, cst, op1, op2, setS, setR, nxO, asgS, tupG, cnsG, nilG, nmG, subGO, subG, subS, getM, ixM, putO, cnsA, nilA, dTup, dLst, frz, retS, retM, setM, exS, mutS, appO, opC, callE, callM, callG_eq, cnsB, nilB, slB, kwB, ioM, toArgs, okA, slsA, nodN, argG_some, goG_ok, asE, asM, putA, newM, putM, parS, par3S, frzS, frzAt, bindO, endR_rt, endR_nx, endG, FL.collect, bodyG_eq, rho0, toS, wipeR, FL.pick, tru, truD, chn, lenM, isiD, typD, isTy,   List.getElem?_cons_zero, List.getElem?_cons_succ, List.getElem?_nil, List.set_cons_zero, List.set_cons_succ, List.set_nil, List.length_cons, List.length_nil, List.mapIdx_cons, List.mapIdx_nil, List.map_cons, List.map_nil, List.replicate_succ, List.replicate_zero, List.cons_append, List.nil_append, List.append_nil, List.foldl_cons, List.foldl_nil, List.filterMap_cons, List.filterMap_nil, Option.map_some, Option.map_none, Option.bind_some, Option.bind_none, Bool.not_true, Bool.not_false, Bool.and_true, Bool.true_and, Bool.or_true, Bool.and_self, if_true, if_false,   eqA_int, neA_int, eqA_str, neA_str, ltD_int, leD_int, gtD_int, geD_int, addD_int, subD_int, negD_int, absC_int, intC_int, maxC_int, minC_int, lenC_lst, lenC_tup, lenC_scr, Int.cast_ofNat_Int, Int.natCast_zero, Int.natCast_one,   ↓reduceIte, Nat.reduceAdd, Nat.reduceSub, Nat.reduceMul, Nat.reduceLT, Nat.reduceLeDiff, Nat.reduceBEq, Nat.reduceBneDiff, Nat.reduceEqDiff, Nat.reducePow, Int.reduceLT, Int.reduceLE, Int.reduceEq, Int.reduceNe, Int.reduceAdd, Int.reduceSub, Int.reduceMul, Int.reduceNeg, Int.reducePow, Int.reduceToNat, decide_true, decide_false, decide_eq_true_eq, Bool.false_eq_true, List.contains_nil, List.contains_cons, Bool.or_false, Bool.or_self, eq_self, and_self, and_true, true_and, i0, i1, i2, a0, a1, a2, hp, m1, m2, m3, m4, f1, f2, f3]

theorem any_ok {n : Nat} {s : M} (hs : Sp n s) {xs : List D} (h0 : xs ≠ []) (h1 : xs.length ≤ 100000) (hn : n ≤ 1000000000) : ∃ (d : D) (s' : M), d ∈ xs ∧ G__law_any [.io s, .val (.lst xs)] = .ok (.v d) [s'] ∧ Sp (n + 1) s' := by
  have hl : 0 < xs.length := List.length_pos_iff.mpr h0
  obtain ⟨i, s', e, i0, i1, hs'⟩ := drip_ok hs (k := xs.length) (by omega) (by omega) hn
  obtain ⟨d, hd, ed⟩ := ixD_lst (xs := xs) i0 i1
  exact ⟨d, s', hd, by simp only [G__law_any, g__law_any, seqS_eq, nxS, bkS, ctS, nxt_nx, nxt_rt, nxt_bk, nxt_ct, ifS_eq, ifE_eq, brR_t, brR_f, brR_dec, anT_eq, orT_eq, anE_eq, orE_eq, tst_eq, isB_bl, ↓R.bind_bd, R.bd_ok, R.of_some, noT, blE, vr, cst, op1, op2, setS, setR, nxO, asgS, tupG, cnsG, nilG, nmG, subGO, subG, subS, getM, ixM, putO, cnsA, nilA, dTup, dLst, frz, retS, retM, setM, exS, mutS, appO, opC, callE, callM, callG_eq, cnsB, nilB, slB, kwB, ioM, toArgs, okA, slsA, nodN, argG_some, goG_ok, asE, asM, putA, newM, putM, parS, par3S, frzS, frzAt, bindO, endR_rt, endR_nx, endG, FL.collect, bodyG_eq, rho0, toS, wipeR, FL.pick, tru, truD, chn, lenM, isiD, typD, isTy,   List.getElem?_cons_zero, List.getElem?_cons_succ, List.getElem?_nil, List.set_cons_zero, List.set_cons_succ, List.set_nil, List.length_cons, List.length_nil, List.mapIdx_cons, List.mapIdx_nil, List.map_cons, List.map_nil, List.replicate_succ, List.replicate_zero, List.cons_append, List.nil_append, List.append_nil, List.foldl_cons, List.foldl_nil, List.filterMap_cons, List.filterMap_nil, Option.map_some, Option.map_none, Option.bind_some, Option.bind_none, Bool.not_true, Bool.not_false, Bool.and_true, Bool.true_and, Bool.or_true, Bool.and_self, if_true, if_false,   eqA_int, neA_int, eqA_str, neA_str, ltD_int, leD_int, gtD_int, geD_int, addD_int, subD_int, negD_int, absC_int, intC_int, maxC_int, minC_int, lenC_lst, lenC_tup, lenC_scr, Int.cast_ofNat_Int, Int.natCast_zero, Int.natCast_one,   ↓reduceIte, Nat.reduceAdd, Nat.reduceSub, Nat.reduceMul, Nat.reduceLT, Nat.reduceLeDiff, Nat.reduceBEq, Nat.reduceBneDiff, Nat.reduceEqDiff, Nat.reducePow, Int.reduceLT, Int.reduceLE, Int.reduceEq, Int.reduceNe, Int.reduceAdd, Int.reduceSub, Int.reduceMul, Int.reduceNeg, Int.reducePow, Int.reduceToNat, decide_true, decide_false, decide_eq_true_eq, Bool.false_eq_true, List.contains_nil, List.contains_cons, Bool.or_false, Bool.or_self, eq_self, and_self, and_true, true_and, e, ed], hs'⟩

theorem gcd_mod (x y : Int) : Int.gcd y (x % y) = Int.gcd x y := by
  rw [Int.emod_def, Int.gcd_sub_mul_left_right, Int.gcd_comm]
theorem gcd_half {x y : Int} (h0 : 0 < y) (h1 : y ≤ x) : 2 * (x % y) ≤ x := by
  have e := Int.mul_ediv_add_emod x y
  have l := Int.emod_lt_of_pos x h0
  have q : 1 ≤ x / y := by
    rw [Int.le_ediv_iff_mul_le h0]
    omega
  have m : y * 1 ≤ y * (x / y) := Int.mul_le_mul_of_nonneg_left q (Int.le_of_lt h0)
  omega
theorem gcd_ok {a b : Int} (h0 : 0 ≤ a) (h1 : 0 ≤ b) (hb : a * b < 2 ^ 250) : G__law_gcd [.val (.int a), .val (.int b)] = .ok (.v (.int (Int.gcd a b))) [] := by
  have key := forL_nx (ks := []) (g := nmG 2) (b := b__law_gcd_1)
    (fun i ρ => ∃ (x y : Int) (z : Slot), ρ = [.val (.int x), .val (.int y), z] ∧ 0 ≤ x ∧ 0 ≤ y ∧ Int.gcd x y = Int.gcd a b ∧ (y = 0 ∨ (i = 0 ∧ x * y ≤ a * b) ∨ ∃ j : Nat, i = j + 1 ∧ y < x ∧ x * y * 2 ^ j ≤ a * b)) (rangeL 0 600) [.val (.int a), .val (.int b), .no]
    ⟨a, b, .no, rfl, h0, h1, rfl, .inr (.inl ⟨rfl, Int.le_refl _⟩)⟩ ?_
  · obtain ⟨ρ', e, x, y, z, rfl, x0, y0, hg, hy⟩ := key
    have hz : y = 0 := by
      rcases hy with hy | ⟨hi, _⟩ | ⟨j, hi, hlt, hle⟩
      · exact hy
      · rw [rangeL_length] at hi
        omega
      · rw [rangeL_length] at hi
        have hj : j = 599 := by omega
        subst hj
        rcases Int.lt_or_eq_of_le y0 with z | z
        · have m : 1 * 1 ≤ x * y := Int.mul_le_mul (by omega) (by omega) (by omega) (by omega)
          have p : (2 : Int) ^ 250 ≤ 2 ^ 599 := by decide +kernel
          have q : 1 * 2 ^ 599 ≤ x * y * 2 ^ 599 := Int.mul_le_mul_of_nonneg_right m (by decide +kernel)
          generalize (2 : Int) ^ 599 = u at p q hle
          generalize (2 : Int) ^ 250 = v at p hb
          omega
        · exact z.symm
    subst hz
    rw [Int.gcd_zero_right] at hg
    have r1 : rng1 (cnsA (cst (.int 600)) nilA) [.val (.int a), .val (.int b), .no] = .ok (rangeL 0 600) [.val (.int a), .val (.int b), .no] := rfl
    simp only [G__law_gcd, g__law_gcd, forS_eq, seqS_eq, nxS, bkS, ctS, nxt_nx, nxt_rt, nxt_bk, nxt_ct, ifS_eq, ifE_eq, brR_t, brR_f, brR_dec, anT_eq, orT_eq, anE_eq, orE_eq, tst_eq, isB_bl, ↓R.bind_bd, R.bd_ok, R.of_some, noT, blE, vr, cst, op1, op2, setS, setR, nxO, asgS, tupG, cnsG, nilG, nmG, subGO, subG, subS, getM, ixM, putO, cnsA, nilA, dTup, dLst, frz, retS, retM, setM, exS, mutS, appO, opC, callE, callM, callG_eq, cnsB, nilB, slB, kwB, ioM, toArgs, okA, slsA, nodN, argG_some, goG_ok, asE, asM, putA, newM, putM, parS, par3S, frzS, frzAt, bindO, endR_rt, endR_nx, endG, FL.collect, bodyG_eq, rho0, toS, wipeR, FL.pick, tru, truD, chn, lenM, isiD, typD, isTy,   List.getElem?_cons_zero, List.getElem?_cons_succ, List.getElem?_nil, List.set_cons_zero, List.set_cons_succ, List.set_nil, List.length_cons, List.length_nil, List.mapIdx_cons, List.mapIdx_nil, List.map_cons, List.map_nil, List.replicate_succ, List.replicate_zero, List.cons_append, List.nil_append, List.append_nil, List.foldl_cons, List.foldl_nil, List.filterMap_cons, List.filterMap_nil, Option.map_some, Option.map_none, Option.bind_some, Option.bind_none, Bool.not_true, Bool.not_false, Bool.and_true, Bool.true_and, Bool.or_true, Bool.and_self, if_true, if_false,   eqA_int, neA_int, eqA_str, neA_str, ltD_int, leD_int, gtD_int, geD_int, addD_int, subD_int, negD_int, absC_int, intC_int, maxC_int, minC_int, lenC_lst, lenC_tup, lenC_scr, Int.cast_ofNat_Int, Int.natCast_zero, Int.natCast_one,   ↓reduceIte, Nat.reduceAdd, Nat.reduceSub, Nat.reduceMul, Nat.reduceLT, Nat.reduceLeDiff, Nat.reduceBEq, Nat.reduceBneDiff, Nat.reduceEqDiff, Nat.reducePow, Int.reduceLT, Int.reduceLE, Int.reduceEq, Int.reduceNe, Int.reduceAdd, Int.reduceSub, Int.reduceMul, Int.reduceNeg, Int.reducePow, Int.reduceToNat, decide_true, decide_false, decide_eq_true_eq, Bool.false_eq_true, List.contains_nil, List.contains_cons, Bool.or_false, Bool.or_self, eq_self, and_self, and_true, true_and, r1, e, hg]
  · rintro i d ρ ⟨x, y, z, rfl, x0, y0, hg, hy⟩ hd
    obtain ⟨_, rfl⟩ := rangeL_get _ _ _ _ hd
    refine ⟨[.val (.int x), .val (.int y), .val (.int (0 + i))], by simp only [seqS_eq, nxS, bkS, ctS, nxt_nx, nxt_rt, nxt_bk, nxt_ct, ifS_eq, ifE_eq, brR_t, brR_f, brR_dec, anT_eq, orT_eq, anE_eq, orE_eq, tst_eq, isB_bl, ↓R.bind_bd, R.bd_ok, R.of_some, noT, blE, vr, cst, op1, op2, setS, setR, nxO, asgS, tupG, cnsG, nilG, nmG, subGO, subG, subS, getM, ixM, putO, cnsA, nilA, dTup, dLst, frz, retS, retM, setM, exS, mutS, appO, opC, callE, callM, callG_eq, cnsB, nilB, slB, kwB, ioM, toArgs, okA, slsA, nodN, argG_some, goG_ok, asE, asM, putA, newM, putM, parS, par3S, frzS, frzAt, bindO, endR_rt, endR_nx, endG, FL.collect, bodyG_eq, rho0, toS, wipeR, FL.pick, tru, truD, chn, lenM, isiD, typD, isTy,   List.getElem?_cons_zero, List.getElem?_cons_succ, List.getElem?_nil, List.set_cons_zero, List.set_cons_succ, List.set_nil, List.length_cons, List.length_nil, List.mapIdx_cons, List.mapIdx_nil, List.map_cons, List.map_nil, List.replicate_succ, List.replicate_zero, List.cons_append, List.nil_append, List.append_nil, List.foldl_cons, List.foldl_nil, List.filterMap_cons, List.filterMap_nil, Option.map_some, Option.map_none, Option.bind_some, Option.bind_none, Bool.not_true, Bool.not_false, Bool.and_true, Bool.true_and, Bool.or_true, Bool.and_self, if_true, if_false,   eqA_int, neA_int, eqA_str, neA_str, ltD_int, leD_int, gtD_int, geD_int, addD_int, subD_int, negD_int, absC_int, intC_int, maxC_int, minC_int, lenC_lst, lenC_tup, lenC_scr, Int.cast_ofNat_Int, Int.natCast_zero, Int.natCast_one,   ↓reduceIte, Nat.reduceAdd, Nat.reduceSub, Nat.reduceMul, Nat.reduceLT, Nat.reduceLeDiff, Nat.reduceBEq, Nat.reduceBneDiff, Nat.reduceEqDiff, Nat.reducePow, Int.reduceLT, Int.reduceLE, Int.reduceEq, Int.reduceNe, Int.reduceAdd, Int.reduceSub, Int.reduceMul, Int.reduceNeg, Int.reducePow, Int.reduceToNat, decide_true, decide_false, decide_eq_true_eq, Bool.false_eq_true, List.contains_nil, List.contains_cons, Bool.or_false, Bool.or_self, eq_self, and_self, and_true, true_and], ?_⟩
    by_cases hz : y = 0
    · subst hz
      refine ⟨[.val (.int x), .val (.int 0), .val (.int (0 + i))], by simp only [b__law_gcd_1, seqS_eq, nxS, bkS, ctS, nxt_nx, nxt_rt, nxt_bk, nxt_ct, ifS_eq, ifE_eq, brR_t, brR_f, brR_dec, anT_eq, orT_eq, anE_eq, orE_eq, tst_eq, isB_bl, ↓R.bind_bd, R.bd_ok, R.of_some, noT, blE, vr, cst, op1, op2, setS, setR, nxO, asgS, tupG, cnsG, nilG, nmG, subGO, subG, subS, getM, ixM, putO, cnsA, nilA, dTup, dLst, frz, retS, retM, setM, exS, mutS, appO, opC, callE, callM, callG_eq, cnsB, nilB, slB, kwB, ioM, toArgs, okA, slsA, nodN, argG_some, goG_ok, asE, asM, putA, newM, putM, parS, par3S, frzS, frzAt, bindO, endR_rt, endR_nx, endG, FL.collect, bodyG_eq, rho0, toS, wipeR, FL.pick, tru, truD, chn, lenM, isiD, typD, isTy,   List.getElem?_cons_zero, List.getElem?_cons_succ, List.getElem?_nil, List.set_cons_zero, List.set_cons_succ, List.set_nil, List.length_cons, List.length_nil, List.mapIdx_cons, List.mapIdx_nil, List.map_cons, List.map_nil, List.replicate_succ, List.replicate_zero, List.cons_append, List.nil_append, List.append_nil, List.foldl_cons, List.foldl_nil, List.filterMap_cons, List.filterMap_nil, Option.map_some, Option.map_none, Option.bind_some, Option.bind_none, Bool.not_true, Bool.not_false, Bool.and_true, Bool.true_and, Bool.or_true, Bool.and_self, if_true, if_false,   eqA_int, neA_int, eqA_str, neA_str, ltD_int, leD_int, gtD_int, geD_int, addD_int, subD_int, negD_int, absC_int, intC_int, maxC_int, minC_int, lenC_lst, lenC_tup, lenC_scr, Int.cast_ofNat_Int, Int.natCast_zero, Int.natCast_one,   ↓reduceIte, Nat.reduceAdd, Nat.reduceSub, Nat.reduceMul, Nat.reduceLT, Nat.reduceLeDiff, Nat.reduceBEq, Nat.reduceBneDiff, Nat.reduceEqDiff, Nat.reducePow, Int.reduceLT, Int.reduceLE, Int.reduceEq, Int.reduceNe, Int.reduceAdd, Int.reduceSub, Int.reduceMul, Int.reduceNeg, Int.reducePow, Int.reduceToNat, decide_true, decide_false, decide_eq_true_eq, Bool.false_eq_true, List.contains_nil, List.contains_cons, Bool.or_false, Bool.or_self, eq_self, and_self, and_true, true_and], x, 0, _, rfl, x0, Int.le_refl _, hg, .inl rfl⟩
    · have yp : 0 < y := by omega
      refine ⟨[.val (.int y), .val (.int (x % y)), .val (.int (0 + i))], by simp only [b__law_gcd_1, seqS_eq, nxS, bkS, ctS, nxt_nx, nxt_rt, nxt_bk, nxt_ct, ifS_eq, ifE_eq, brR_t, brR_f, brR_dec, anT_eq, orT_eq, anE_eq, orE_eq, tst_eq, isB_bl, ↓R.bind_bd, R.bd_ok, R.of_some, noT, blE, vr, cst, op1, op2, setS, setR, nxO, asgS, tupG, cnsG, nilG, nmG, subGO, subG, subS, getM, ixM, putO, cnsA, nilA, dTup, dLst, frz, retS, retM, setM, exS, mutS, appO, opC, callE, callM, callG_eq, cnsB, nilB, slB, kwB, ioM, toArgs, okA, slsA, nodN, argG_some, goG_ok, asE, asM, putA, newM, putM, parS, par3S, frzS, frzAt, bindO, endR_rt, endR_nx, endG, FL.collect, bodyG_eq, rho0, toS, wipeR, FL.pick, tru, truD, chn, lenM, isiD, typD, isTy,   List.getElem?_cons_zero, List.getElem?_cons_succ, List.getElem?_nil, List.set_cons_zero, List.set_cons_succ, List.set_nil, List.length_cons, List.length_nil, List.mapIdx_cons, List.mapIdx_nil, List.map_cons, List.map_nil, List.replicate_succ, List.replicate_zero, List.cons_append, List.nil_append, List.append_nil, List.foldl_cons, List.foldl_nil, List.filterMap_cons, List.filterMap_nil, Option.map_some, Option.map_none, Option.bind_some, Option.bind_none, Bool.not_true, Bool.not_false, Bool.and_true, Bool.true_and, Bool.or_true, Bool.and_self, if_true, if_false,   eqA_int, neA_int, eqA_str, neA_str, ltD_int, leD_int, gtD_int, geD_int, addD_int, subD_int, negD_int, absC_int, intC_int, maxC_int, minC_int, lenC_lst, lenC_tup, lenC_scr, Int.cast_ofNat_Int, Int.natCast_zero, Int.natCast_one,   ↓reduceIte, Nat.reduceAdd, Nat.reduceSub, Nat.reduceMul, Nat.reduceLT, Nat.reduceLeDiff, Nat.reduceBEq, Nat.reduceBneDiff, Nat.reduceEqDiff, Nat.reducePow, Int.reduceLT, Int.reduceLE, Int.reduceEq, Int.reduceNe, Int.reduceAdd, Int.reduceSub, Int.reduceMul, Int.reduceNeg, Int.reducePow, Int.reduceToNat, decide_true, decide_false, decide_eq_true_eq, Bool.false_eq_true, List.contains_nil, List.contains_cons, Bool.or_false, Bool.or_self, eq_self, and_self, and_true, true_and, hz, modD_pos yp], y, x % y, _, rfl, y0, Int.emod_nonneg _ hz, by rw [gcd_mod, hg], ?_⟩
      have lt := Int.emod_lt_of_pos x yp
      rcases hy with hy | ⟨hi, hle⟩ | ⟨j, hi, hlt, hle⟩
      · exact absurd hy hz
      · subst hi
        refine .inr (.inr ⟨0, rfl, lt, ?_⟩)
        rw [Int.pow_zero, Int.mul_one]
        have m : x % y ≤ x := by
          rcases Int.lt_or_le x y with q | q
          · rw [Int.emod_eq_of_lt x0 q]
            exact Int.le_refl _
          · omega
        have : y * (x % y) ≤ y * x := Int.mul_le_mul_of_nonneg_left m y0
        rw [Int.mul_comm y x] at this
        omega
      · subst hi
        refine .inr (.inr ⟨j + 1, rfl, lt, ?_⟩)
        have h2 := gcd_half yp (Int.le_of_lt hlt)
        have m : y * (2 * (x % y)) ≤ y * x := Int.mul_le_mul_of_nonneg_left h2 y0
        have p : (0 : Int) ≤ 2 ^ j := Int.le_of_lt (Int.pow_pos (by decide))
        have m2 : y * (2 * (x % y)) * 2 ^ j ≤ y * x * 2 ^ j := Int.mul_le_mul_of_nonneg_right m p
        have e1 : y * (x % y) * 2 ^ (j + 1) = y * (2 * (x % y)) * 2 ^ j := by
          rw [Int.pow_succ, Int.mul_comm (2 ^ j) 2, ← Int.mul_assoc, Int.mul_assoc y (x % y) 2, Int.mul_comm (x % y) 2]
        rw [e1]
        rw [Int.mul_comm y x] at m2
        omega

theorem common_wh : ∀ (n : Nat) (a b : Int), 0 ≤ a → 0 ≤ b → b < n → ∃ m, whN [] (tst (op2 gtD (vr 1) (cst (.int 0)))) b_common_1 m [.val (.int a), .val (.int b)] = .ok .nx [.val (.int (Int.gcd a b)), .val (.int 0)]
  | 0, a, b, h0, h1, h => by omega
  | n + 1, a, b, h0, h1, h => by
    by_cases hb : 0 < b
    · obtain ⟨m, e⟩ := common_wh n b (a % b) h1 (Int.emod_nonneg _ (by omega)) (by have := Int.emod_lt_of_pos a hb; omega)
      have g : Int.gcd b (a % b) = Int.gcd a b := by rw [Int.emod_def, Int.gcd_sub_mul_left_right, Int.gcd_comm]
      rw [g] at e
      have eb : b_common_1 [.val (.int a), .val (.int b)] = .ok .nx [.val (.int b), .val (.int (a % b))] := by simp only [b_common_1, seqS_eq, nxS, bkS, ctS, nxt_nx, nxt_rt, nxt_bk, nxt_ct, ifS_eq, ifE_eq, brR_t, brR_f, brR_dec, anT_eq, orT_eq, anE_eq, orE_eq, tst_eq, isB_bl, ↓R.bind_bd, R.bd_ok, R.of_some, noT, blE, vr, cst, op1, op2, setS, setR, nxO, asgS, tupG, cnsG, nilG, nmG, subGO, subG, subS, getM, ixM, putO, cnsA, nilA, dTup, dLst, frz, retS, retM, setM, exS, mutS, appO, opC, callE, callM, callG_eq, cnsB, nilB, slB, kwB, ioM, toArgs, okA, slsA, nodN, argG_some, goG_ok, asE, asM, putA, newM, putM, parS, par3S, frzS, frzAt, bindO, endR_rt, endR_nx, endG, FL.collect, bodyG_eq, rho0, toS, wipeR, FL.pick, tru, truD, chn, lenM, isiD, typD, isTy,   List.getElem?_cons_zero, List.getElem?_cons_succ, List.getElem?_nil, List.set_cons_zero, List.set_cons_succ, List.set_nil, List.length_cons, List.length_nil, List.mapIdx_cons, List.mapIdx_nil, List.map_cons, List.map_nil, List.replicate_succ, List.replicate_zero, List.cons_append, List.nil_append, List.append_nil, List.foldl_cons, List.foldl_nil, List.filterMap_cons, List.filterMap_nil, Option.map_some, Option.map_none, Option.bind_some, Option.bind_none, Bool.not_true, Bool.not_false, Bool.and_true, Bool.true_and, Bool.or_true, Bool.and_self, if_true, if_false,   eqA_int, neA_int, eqA_str, neA_str, ltD_int, leD_int, gtD_int, geD_int, addD_int, subD_int, negD_int, absC_int, intC_int, maxC_int, minC_int, lenC_lst, lenC_tup, lenC_scr, Int.cast_ofNat_Int, Int.natCast_zero, Int.natCast_one,   ↓reduceIte, Nat.reduceAdd, Nat.reduceSub, Nat.reduceMul, Nat.reduceLT, Nat.reduceLeDiff, Nat.reduceBEq, Nat.reduceBneDiff, Nat.reduceEqDiff, Nat.reducePow, Int.reduceLT, Int.reduceLE, Int.reduceEq, Int.reduceNe, Int.reduceAdd, Int.reduceSub, Int.reduceMul, Int.reduceNeg, Int.reducePow, Int.reduceToNat, decide_true, decide_false, decide_eq_true_eq, Bool.false_eq_true, List.contains_nil, List.contains_cons, Bool.or_false, Bool.or_self, eq_self, and_self, and_true, true_and, modD_pos hb]
      exact ⟨m + 1, by simp only [whN, seqS_eq, nxS, bkS, ctS, nxt_nx, nxt_rt, nxt_bk, nxt_ct, ifS_eq, ifE_eq, brR_t, brR_f, brR_dec, anT_eq, orT_eq, anE_eq, orE_eq, tst_eq, isB_bl, ↓R.bind_bd, R.bd_ok, R.of_some, noT, blE, vr, cst, op1, op2, setS, setR, nxO, asgS, tupG, cnsG, nilG, nmG, subGO, subG, subS, getM, ixM, putO, cnsA, nilA, dTup, dLst, frz, retS, retM, setM, exS, mutS, appO, opC, callE, callM, callG_eq, cnsB, nilB, slB, kwB, ioM, toArgs, okA, slsA, nodN, argG_some, goG_ok, asE, asM, putA, newM, putM, parS, par3S, frzS, frzAt, bindO, endR_rt, endR_nx, endG, FL.collect, bodyG_eq, rho0, toS, wipeR, FL.pick, tru, truD, chn, lenM, isiD, typD, isTy,   List.getElem?_cons_zero, List.getElem?_cons_succ, List.getElem?_nil, List.set_cons_zero, List.set_cons_succ, List.set_nil, List.length_cons, List.length_nil, List.mapIdx_cons, List.mapIdx_nil, List.map_cons, List.map_nil, List.replicate_succ, List.replicate_zero, List.cons_append, List.nil_append, List.append_nil, List.foldl_cons, List.foldl_nil, List.filterMap_cons, List.filterMap_nil, Option.map_some, Option.map_none, Option.bind_some, Option.bind_none, Bool.not_true, Bool.not_false, Bool.and_true, Bool.true_and, Bool.or_true, Bool.and_self, if_true, if_false,   eqA_int, neA_int, eqA_str, neA_str, ltD_int, leD_int, gtD_int, geD_int, addD_int, subD_int, negD_int, absC_int, intC_int, maxC_int, minC_int, lenC_lst, lenC_tup, lenC_scr, Int.cast_ofNat_Int, Int.natCast_zero, Int.natCast_one,   ↓reduceIte, Nat.reduceAdd, Nat.reduceSub, Nat.reduceMul, Nat.reduceLT, Nat.reduceLeDiff, Nat.reduceBEq, Nat.reduceBneDiff, Nat.reduceEqDiff, Nat.reducePow, Int.reduceLT, Int.reduceLE, Int.reduceEq, Int.reduceNe, Int.reduceAdd, Int.reduceSub, Int.reduceMul, Int.reduceNeg, Int.reducePow, Int.reduceToNat, decide_true, decide_false, decide_eq_true_eq, Bool.false_eq_true, List.contains_nil, List.contains_cons, Bool.or_false, Bool.or_self, eq_self, and_self, and_true, true_and, hb, eb, e]⟩
    · have : b = 0 := by omega
      subst this
      refine ⟨1, ?_⟩
      have g : ((Int.gcd a 0 : Nat) : Int) = a := by rw [Int.gcd_zero_right]; omega
      rw [g]
      simp only [whN, seqS_eq, nxS, bkS, ctS, nxt_nx, nxt_rt, nxt_bk, nxt_ct, ifS_eq, ifE_eq, brR_t, brR_f, brR_dec, anT_eq, orT_eq, anE_eq, orE_eq, tst_eq, isB_bl, ↓R.bind_bd, R.bd_ok, R.of_some, noT, blE, vr, cst, op1, op2, setS, setR, nxO, asgS, tupG, cnsG, nilG, nmG, subGO, subG, subS, getM, ixM, putO, cnsA, nilA, dTup, dLst, frz, retS, retM, setM, exS, mutS, appO, opC, callE, callM, callG_eq, cnsB, nilB, slB, kwB, ioM, toArgs, okA, slsA, nodN, argG_some, goG_ok, asE, asM, putA, newM, putM, parS, par3S, frzS, frzAt, bindO, endR_rt, endR_nx, endG, FL.collect, bodyG_eq, rho0, toS, wipeR, FL.pick, tru, truD, chn, lenM, isiD, typD, isTy,   List.getElem?_cons_zero, List.getElem?_cons_succ, List.getElem?_nil, List.set_cons_zero, List.set_cons_succ, List.set_nil, List.length_cons, List.length_nil, List.mapIdx_cons, List.mapIdx_nil, List.map_cons, List.map_nil, List.replicate_succ, List.replicate_zero, List.cons_append, List.nil_append, List.append_nil, List.foldl_cons, List.foldl_nil, List.filterMap_cons, List.filterMap_nil, Option.map_some, Option.map_none, Option.bind_some, Option.bind_none, Bool.not_true, Bool.not_false, Bool.and_true, Bool.true_and, Bool.or_true, Bool.and_self, if_true, if_false,   eqA_int, neA_int, eqA_str, neA_str, ltD_int, leD_int, gtD_int, geD_int, addD_int, subD_int, negD_int, absC_int, intC_int, maxC_int, minC_int, lenC_lst, lenC_tup, lenC_scr, Int.cast_ofNat_Int, Int.natCast_zero, Int.natCast_one,   ↓reduceIte, Nat.reduceAdd, Nat.reduceSub, Nat.reduceMul, Nat.reduceLT, Nat.reduceLeDiff, Nat.reduceBEq, Nat.reduceBneDiff, Nat.reduceEqDiff, Nat.reducePow, Int.reduceLT, Int.reduceLE, Int.reduceEq, Int.reduceNe, Int.reduceAdd, Int.reduceSub, Int.reduceMul, Int.reduceNeg, Int.reducePow, Int.reduceToNat, decide_true, decide_false, decide_eq_true_eq, Bool.false_eq_true, List.contains_nil, List.contains_cons, Bool.or_false, Bool.or_self, eq_self, and_self, and_true, true_and]
theorem common_ok {a b : Int} (h0 : 0 ≤ a) (h1 : 0 ≤ b) : G_common [.val (.int a), .val (.int b)] = .ok (.v (.int (Int.gcd a b))) [] := by
  obtain ⟨m, e⟩ := common_wh (b.toNat + 1) a b h0 h1 (by omega)
  have w := whS_eq (ks := []) (t := (tst (op2 gtD (vr 1) (cst (.int 0))))) (b := b_common_1) (n := m) (ρ := [.val (.int a), .val (.int b)]) (by rw [e]; rfl)
  rw [e] at w
  simp only [G_common, g_common, seqS_eq, nxS, bkS, ctS, nxt_nx, nxt_rt, nxt_bk, nxt_ct, ifS_eq, ifE_eq, brR_t, brR_f, brR_dec, anT_eq, orT_eq, anE_eq, orE_eq, tst_eq, isB_bl, ↓R.bind_bd, R.bd_ok, R.of_some, noT, blE, vr, cst, op1, op2, setS, setR, nxO, asgS, tupG, cnsG, nilG, nmG, subGO, subG, subS, getM, ixM, putO, cnsA, nilA, dTup, dLst, frz, retS, retM, setM, exS, mutS, appO, opC, callE, callM, callG_eq, cnsB, nilB, slB, kwB, ioM, toArgs, okA, slsA, nodN, argG_some, goG_ok, asE, asM, putA, newM, putM, parS, par3S, frzS, frzAt, bindO, endR_rt, endR_nx, endG, FL.collect, bodyG_eq, rho0, toS, wipeR, FL.pick, tru, truD, chn, lenM, isiD, typD, isTy,   List.getElem?_cons_zero, List.getElem?_cons_succ, List.getElem?_nil, List.set_cons_zero, List.set_cons_succ, List.set_nil, List.length_cons, List.length_nil, List.mapIdx_cons, List.mapIdx_nil, List.map_cons, List.map_nil, List.replicate_succ, List.replicate_zero, List.cons_append, List.nil_append, List.append_nil, List.foldl_cons, List.foldl_nil, List.filterMap_cons, List.filterMap_nil, Option.map_some, Option.map_none, Option.bind_some, Option.bind_none, Bool.not_true, Bool.not_false, Bool.and_true, Bool.true_and, Bool.or_true, Bool.and_self, if_true, if_false,   eqA_int, neA_int, eqA_str, neA_str, ltD_int, leD_int, gtD_int, geD_int, addD_int, subD_int, negD_int, absC_int, intC_int, maxC_int, minC_int, lenC_lst, lenC_tup, lenC_scr, Int.cast_ofNat_Int, Int.natCast_zero, Int.natCast_one,   ↓reduceIte, Nat.reduceAdd, Nat.reduceSub, Nat.reduceMul, Nat.reduceLT, Nat.reduceLeDiff, Nat.reduceBEq, Nat.reduceBneDiff, Nat.reduceEqDiff, Nat.reducePow, Int.reduceLT, Int.reduceLE, Int.reduceEq, Int.reduceNe, Int.reduceAdd, Int.reduceSub, Int.reduceMul, Int.reduceNeg, Int.reducePow, Int.reduceToNat, decide_true, decide_false, decide_eq_true_eq, Bool.false_eq_true, List.contains_nil, List.contains_cons, Bool.or_false, Bool.or_self, eq_self, and_self, and_true, true_and, w]

def isInt : D → Bool
  | .int _ => true
  | _ => false
theorem isInt_of {d : D} (h : isInt d = true) : ∃ i, d = .int i := by
  cases d <;> first | exact ⟨_, rfl⟩ | cases h
theorem is_integer_ok {d : D} (h : (typD d).isSome = true) : G_is_integer [.val d] = .ok (.v (.bl (isInt d))) [] := by
  cases d <;> first | (cases h; done) | (simp only [G_is_integer, g_is_integer, seqS_eq, nxS, bkS, ctS, nxt_nx, nxt_rt, nxt_bk, nxt_ct, ifS_eq, ifE_eq, brR_t, brR_f, brR_dec, anT_eq, orT_eq, anE_eq, orE_eq, tst_eq, isB_bl, ↓R.bind_bd, R.bd_ok, R.of_some, noT, blE, vr, cst, op1, op2, setS, setR, nxO, asgS, tupG, cnsG, nilG, nmG, subGO, subG, subS, getM, ixM, putO, cnsA, nilA, dTup, dLst, frz, retS, retM, setM, exS, mutS, appO, opC, callE, callM, callG_eq, cnsB, nilB, slB, kwB, ioM, toArgs, okA, slsA, nodN, argG_some, goG_ok, asE, asM, putA, newM, putM, parS, par3S, frzS, frzAt, bindO, endR_rt, endR_nx, endG, FL.collect, bodyG_eq, rho0, toS, wipeR, FL.pick, tru, truD, chn, lenM, isiD, typD, isTy,   List.getElem?_cons_zero, List.getElem?_cons_succ, List.getElem?_nil, List.set_cons_zero, List.set_cons_succ, List.set_nil, List.length_cons, List.length_nil, List.mapIdx_cons, List.mapIdx_nil, List.map_cons, List.map_nil, List.replicate_succ, List.replicate_zero, List.cons_append, List.nil_append, List.append_nil, List.foldl_cons, List.foldl_nil, List.filterMap_cons, List.filterMap_nil, Option.map_some, Option.map_none, Option.bind_some, Option.bind_none, Bool.not_true, Bool.not_false, Bool.and_true, Bool.true_and, Bool.or_true, Bool.and_self, if_true, if_false,   eqA_int, neA_int, eqA_str, neA_str, ltD_int, leD_int, gtD_int, geD_int, addD_int, subD_int, negD_int, absC_int, intC_int, maxC_int, minC_int, lenC_lst, lenC_tup, lenC_scr, Int.cast_ofNat_Int, Int.natCast_zero, Int.natCast_one,   ↓reduceIte, Nat.reduceAdd, Nat.reduceSub, Nat.reduceMul, Nat.reduceLT, Nat.reduceLeDiff, Nat.reduceBEq, Nat.reduceBneDiff, Nat.reduceEqDiff, Nat.reducePow, Int.reduceLT, Int.reduceLE, Int.reduceEq, Int.reduceNe, Int.reduceAdd, Int.reduceSub, Int.reduceMul, Int.reduceNeg, Int.reducePow, Int.reduceToNat, decide_true, decide_false, decide_eq_true_eq, Bool.false_eq_true, List.contains_nil, List.contains_cons, Bool.or_false, Bool.or_self, eq_self, and_self, and_true, true_and, isInt])
theorem is_integer_int (i : Int) : G_is_integer [.val (.int i)] = .ok (.v (.bl true)) [] := is_integer_ok rfl

/-- a pair of numbers -/
abbrev D2 (p q : Int) : D := .tup [.int p, .int q]
def pairB (p q : Int) : Bool := if p = 0 then decide (q = 1) else decide (0 ≤ q) && decide (q < p) && decide (Int.gcd p q = 1)
theorem is_pair_ok (p q : Int) : G_is_pair [.val (D2 p q)] = .ok (.v (.bl (pairB p q))) [] := by
  have a0 : ixD (D2 p q) (.int 0) = some (.int p) := rfl
  have a1 : ixD (D2 p q) (.int 1) = some (.int q) := rfl
  unfold pairB
  by_cases hp : p = 0
  · subst hp
    simp only [G_is_pair, g_is_pair, seqS_eq, nxS, bkS, ctS, nxt_nx, nxt_rt, nxt_bk, nxt_ct, ifS_eq, ifE_eq, brR_t, brR_f, brR_dec, anT_eq, orT_eq, anE_eq, orE_eq, tst_eq, isB_bl, ↓R.bind_bd, R.bd_ok, R.of_some, noT, blE, vr, cst, op1, op2, setS, setR, nxO, asgS, tupG, cnsG, nilG, nmG, subGO, subG, subS, getM, ixM, putO, cnsA, nilA, dTup, dLst, frz, retS, retM, setM, exS, mutS, appO, opC, callE, callM, callG_eq, cnsB, nilB, slB, kwB, ioM, toArgs, okA, slsA, nodN, argG_some, goG_ok, asE, asM, putA, newM, putM, parS, par3S, frzS, frzAt, bindO, endR_rt, endR_nx, endG, FL.collect, bodyG_eq, rho0, toS, wipeR, FL.pick, tru, truD, chn, lenM, isiD, typD, isTy,   List.getElem?_cons_zero, List.getElem?_cons_succ, List.getElem?_nil, List.set_cons_zero, List.set_cons_succ, List.set_nil, List.length_cons, List.length_nil, List.mapIdx_cons, List.mapIdx_nil, List.map_cons, List.map_nil, List.replicate_succ, List.replicate_zero, List.cons_append, List.nil_append, List.append_nil, List.foldl_cons, List.foldl_nil, List.filterMap_cons, List.filterMap_nil, Option.map_some, Option.map_none, Option.bind_some, Option.bind_none, Bool.not_true, Bool.not_false, Bool.and_true, Bool.true_and, Bool.or_true, Bool.and_self, if_true, if_false,   eqA_int, neA_int, eqA_str, neA_str, ltD_int, leD_int, gtD_int, geD_int, addD_int, subD_int, negD_int, absC_int, intC_int, maxC_int, minC_int, lenC_lst, lenC_tup, lenC_scr, Int.cast_ofNat_Int, Int.natCast_zero, Int.natCast_one,   ↓reduceIte, Nat.reduceAdd, Nat.reduceSub, Nat.reduceMul, Nat.reduceLT, Nat.reduceLeDiff, Nat.reduceBEq, Nat.reduceBneDiff, Nat.reduceEqDiff, Nat.reducePow, Int.reduceLT, Int.reduceLE, Int.reduceEq, Int.reduceNe, Int.reduceAdd, Int.reduceSub, Int.reduceMul, Int.reduceNeg, Int.reducePow, Int.reduceToNat, decide_true, decide_false, decide_eq_true_eq, Bool.false_eq_true, List.contains_nil, List.contains_cons, Bool.or_false, Bool.or_self, eq_self, and_self, and_true, true_and, a0, a1, is_integer_int]
  · by_cases h0 : 0 ≤ q
    · by_cases h1 : q < p
      · have c := common_ok (a := p) (b := q) (by omega) h0
        have e : ((Int.gcd p q : Nat) : Int) = 1 ↔ Int.gcd p q = 1 := by omega
        simp only [G_is_pair, g_is_pair, seqS_eq, nxS, bkS, ctS, nxt_nx, nxt_rt, nxt_bk, nxt_ct, ifS_eq, ifE_eq, brR_t, brR_f, brR_dec, anT_eq, orT_eq, anE_eq, orE_eq, tst_eq, isB_bl, ↓R.bind_bd, R.bd_ok, R.of_some, noT, blE, vr, cst, op1, op2, setS, setR, nxO, asgS, tupG, cnsG, nilG, nmG, subGO, subG, subS, getM, ixM, putO, cnsA, nilA, dTup, dLst, frz, retS, retM, setM, exS, mutS, appO, opC, callE, callM, callG_eq, cnsB, nilB, slB, kwB, ioM, toArgs, okA, slsA, nodN, argG_some, goG_ok, asE, asM, putA, newM, putM, parS, par3S, frzS, frzAt, bindO, endR_rt, endR_nx, endG, FL.collect, bodyG_eq, rho0, toS, wipeR, FL.pick, tru, truD, chn, lenM, isiD, typD, isTy,   List.getElem?_cons_zero, List.getElem?_cons_succ, List.getElem?_nil, List.set_cons_zero, List.set_cons_succ, List.set_nil, List.length_cons, List.length_nil, List.mapIdx_cons, List.mapIdx_nil, List.map_cons, List.map_nil, List.replicate_succ, List.replicate_zero, List.cons_append, List.nil_append, List.append_nil, List.foldl_cons, List.foldl_nil, List.filterMap_cons, List.filterMap_nil, Option.map_some, Option.map_none, Option.bind_some, Option.bind_none, Bool.not_true, Bool.not_false, Bool.and_true, Bool.true_and, Bool.or_true, Bool.and_self, if_true, if_false,   eqA_int, neA_int, eqA_str, neA_str, ltD_int, leD_int, gtD_int, geD_int, addD_int, subD_int, negD_int, absC_int, intC_int, maxC_int, minC_int, lenC_lst, lenC_tup, lenC_scr, Int.cast_ofNat_Int, Int.natCast_zero, Int.natCast_one,   ↓reduceIte, Nat.reduceAdd, Nat.reduceSub, Nat.reduceMul, Nat.reduceLT, Nat.reduceLeDiff, Nat.reduceBEq, Nat.reduceBneDiff, Nat.reduceEqDiff, Nat.reducePow, Int.reduceLT, Int.reduceLE, Int.reduceEq, Int.reduceNe, Int.reduceAdd, Int.reduceSub, Int.reduceMul, Int.reduceNeg, Int.reducePow, Int.reduceToNat, decide_true, decide_false, decide_eq_true_eq, Bool.false_eq_true, List.contains_nil, List.contains_cons, Bool.or_false, Bool.or_self, eq_self, and_self, and_true, true_and, a0, a1, is_integer_int, hp, h0, h1, c, e]
      · simp only [G_is_pair, g_is_pair, seqS_eq, nxS, bkS, ctS, nxt_nx, nxt_rt, nxt_bk, nxt_ct, ifS_eq, ifE_eq, brR_t, brR_f, brR_dec, anT_eq, orT_eq, anE_eq, orE_eq, tst_eq, isB_bl, ↓R.bind_bd, R.bd_ok, R.of_some, noT, blE, vr, cst, op1, op2, setS, setR, nxO, asgS, tupG, cnsG, nilG, nmG, subGO, subG, subS, getM, ixM, putO, cnsA, nilA, dTup, dLst, frz, retS, retM, setM, exS, mutS, appO, opC, callE, callM, callG_eq, cnsB, nilB, slB, kwB, ioM, toArgs, okA, slsA, nodN, argG_some, goG_ok, asE, asM, putA, newM, putM, parS, par3S, frzS, frzAt, bindO, endR_rt, endR_nx, endG, FL.collect, bodyG_eq, rho0, toS, wipeR, FL.pick, tru, truD, chn, lenM, isiD, typD, isTy,   List.getElem?_cons_zero, List.getElem?_cons_succ, List.getElem?_nil, List.set_cons_zero, List.set_cons_succ, List.set_nil, List.length_cons, List.length_nil, List.mapIdx_cons, List.mapIdx_nil, List.map_cons, List.map_nil, List.replicate_succ, List.replicate_zero, List.cons_append, List.nil_append, List.append_nil, List.foldl_cons, List.foldl_nil, List.filterMap_cons, List.filterMap_nil, Option.map_some, Option.map_none, Option.bind_some, Option.bind_none, Bool.not_true, Bool.not_false, Bool.and_true, Bool.true_and, Bool.or_true, Bool.and_self, if_true, if_false,   eqA_int, neA_int, eqA_str, neA_str, ltD_int, leD_int, gtD_int, geD_int, addD_int, subD_int, negD_int, absC_int, intC_int, maxC_int, minC_int, lenC_lst, lenC_tup, lenC_scr, Int.cast_ofNat_Int, Int.natCast_zero, Int.natCast_one,   ↓reduceIte, Nat.reduceAdd, Nat.reduceSub, Nat.reduceMul, Nat.reduceLT, Nat.reduceLeDiff, Nat.reduceBEq, Nat.reduceBneDiff, Nat.reduceEqDiff, Nat.reducePow, Int.reduceLT, Int.reduceLE, Int.reduceEq, Int.reduceNe, Int.reduceAdd, Int.reduceSub, Int.reduceMul, Int.reduceNeg, Int.reducePow, Int.reduceToNat, decide_true, decide_false, decide_eq_true_eq, Bool.false_eq_true, List.contains_nil, List.contains_cons, Bool.or_false, Bool.or_self, eq_self, and_self, and_true, true_and, a0, a1, is_integer_int, hp, h0, h1, Bool.and_false, Bool.false_and]
    · simp only [G_is_pair, g_is_pair, seqS_eq, nxS, bkS, ctS, nxt_nx, nxt_rt, nxt_bk, nxt_ct, ifS_eq, ifE_eq, brR_t, brR_f, brR_dec, anT_eq, orT_eq, anE_eq, orE_eq, tst_eq, isB_bl, ↓R.bind_bd, R.bd_ok, R.of_some, noT, blE, vr, cst, op1, op2, setS, setR, nxO, asgS, tupG, cnsG, nilG, nmG, subGO, subG, subS, getM, ixM, putO, cnsA, nilA, dTup, dLst, frz, retS, retM, setM, exS, mutS, appO, opC, callE, callM, callG_eq, cnsB, nilB, slB, kwB, ioM, toArgs, okA, slsA, nodN, argG_some, goG_ok, asE, asM, putA, newM, putM, parS, par3S, frzS, frzAt, bindO, endR_rt, endR_nx, endG, FL.collect, bodyG_eq, rho0, toS, wipeR, FL.pick, tru, truD, chn, lenM, isiD, typD, isTy,   List.getElem?_cons_zero, List.getElem?_cons_succ, List.getElem?_nil, List.set_cons_zero, List.set_cons_succ, List.set_nil, List.length_cons, List.length_nil, List.mapIdx_cons, List.mapIdx_nil, List.map_cons, List.map_nil, List.replicate_succ, List.replicate_zero, List.cons_append, List.nil_append, List.append_nil, List.foldl_cons, List.foldl_nil, List.filterMap_cons, List.filterMap_nil, Option.map_some, Option.map_none, Option.bind_some, Option.bind_none, Bool.not_true, Bool.not_false, Bool.and_true, Bool.true_and, Bool.or_true, Bool.and_self, if_true, if_false,   eqA_int, neA_int, eqA_str, neA_str, ltD_int, leD_int, gtD_int, geD_int, addD_int, subD_int, negD_int, absC_int, intC_int, maxC_int, minC_int, lenC_lst, lenC_tup, lenC_scr, Int.cast_ofNat_Int, Int.natCast_zero, Int.natCast_one,   ↓reduceIte, Nat.reduceAdd, Nat.reduceSub, Nat.reduceMul, Nat.reduceLT, Nat.reduceLeDiff, Nat.reduceBEq, Nat.reduceBneDiff, Nat.reduceEqDiff, Nat.reducePow, Int.reduceLT, Int.reduceLE, Int.reduceEq, Int.reduceNe, Int.reduceAdd, Int.reduceSub, Int.reduceMul, Int.reduceNeg, Int.reducePow, Int.reduceToNat, decide_true, decide_false, decide_eq_true_eq, Bool.false_eq_true, List.contains_nil, List.contains_cons, Bool.or_false, Bool.or_self, eq_self, and_self, and_true, true_and, a0, a1, is_integer_int, hp, h0, Bool.false_and]
theorem eqA_D2 (p q p' q' : Int) : eqA (D2 p q) (D2 p' q') = some (.bl (decide (p = p') && decide (q = q'))) := by
  have e : ∀ x y : Int, (x == y) = decide (x = y) := fun x y => by
    rw [Bool.eq_iff_iff, beq_iff_eq, decide_eq_true_eq]
  show some (D.bl ((p == p') && ((q == q') && true))) = _
  rw [e, e, Bool.and_true]

/-- what the law takes for a pair with p up to so much -/
def SomeP (most p q : Int) : Prop := (p = 1 ∧ q = 0) ∨ (p = 0 ∧ q = 1) ∨ (2 ≤ p ∧ p ≤ most ∧ 1 ≤ q ∧ q < p ∧ Int.gcd p q = 1)
/-- all q below p prime to it, as the law lists them -/
def copB (p : Int) : D → Bool
  | .int q => decide (Int.gcd p q = 1)
  | _ => false
theorem coprimes_of {p : Int} (hp : 2 ≤ p) : ((rangeL 1 (p - 1).toNat).filter (copB p)).map (fun d => D.tup [.int p, d]) ≠ [] ∧ ∀ d ∈ ((rangeL 1 (p - 1).toNat).filter (copB p)).map (fun d => D.tup [.int p, d]), ∃ q, d = D.tup [.int p, .int q] ∧ 1 ≤ q ∧ q < p ∧ Int.gcd p q = 1 := by
  refine ⟨fun z => ?_, fun d hd => ?_⟩
  · have m : D.tup [.int p, .int 1] ∈ ((rangeL 1 (p - 1).toNat).filter (copB p)).map (fun d => D.tup [.int p, d]) := by
      refine List.mem_map.mpr ⟨.int 1, List.mem_filter.mpr ⟨(rangeL_mem _ _ _).mpr ⟨1, rfl, by omega, by omega⟩, ?_⟩, rfl⟩
      simp [copB]
    rw [z] at m
    simp at m
  · obtain ⟨x, hx, rfl⟩ := List.mem_map.mp hd
    obtain ⟨h1, h2⟩ := List.mem_filter.mp hx
    obtain ⟨i, rfl, h3, h4⟩ := (rangeL_mem _ _ _).mp h1
    exact ⟨i, rfl, h3, by omega, of_decide_eq_true h2⟩
theorem rangeL_len (n : Nat) (lo : Int) : (rangeL lo n).length = n := rangeL_length n lo
theorem some_pair_ok {n : Nat} {s : M} (hs : Sp n s) {m : Int} (m0 : 2 ≤ m) (m1 : m ≤ 90000) (hn : n ≤ 900000000) : ∃ (p q : Int) (s' : M), G__law_some_pair [.io s, .val (.int m)] = .ok (.v (.tup [.int p, .int q])) [s'] ∧ SomeP m p q ∧ Sp (n + 3) s' := by
  obtain ⟨d1, s1, e1, a0, a1, h1⟩ := drip_ok hs (k := 9) (by omega) (by omega) (by omega)
  by_cases hd : d1 = 0
  · subst hd
    obtain ⟨d, s2, hm, e2, h2⟩ := any_ok h1 (xs := [.tup [.int 1, .int 0], .tup [.int 0, .int 1]]) (by simp) (by simp) (by omega)
    have z : ∃ p q : Int, d = .tup [.int p, .int q] ∧ SomeP m p q := by
      rcases List.mem_cons.mp hm with rfl | hm
      · exact ⟨1, 0, rfl, .inl ⟨rfl, rfl⟩⟩
      · rw [List.mem_singleton.mp hm]
        exact ⟨0, 1, rfl, .inr (.inl ⟨rfl, rfl⟩)⟩
    obtain ⟨p, q, rfl, hp⟩ := z
    refine ⟨p, q, s2, ?_, hp, h2.mono (by omega)⟩
    simp only [G__law_some_pair, g__law_some_pair, seqS_eq, nxS, bkS, ctS, nxt_nx, nxt_rt, nxt_bk, nxt_ct, ifS_eq, ifE_eq, brR_t, brR_f, brR_dec, anT_eq, orT_eq, anE_eq, orE_eq, tst_eq, isB_bl, ↓R.bind_bd, R.bd_ok, R.of_some, noT, blE, vr, cst, op1, op2, setS, setR, nxO, asgS, tupG, cnsG, nilG, nmG, subGO, subG, subS, getM, ixM, putO, cnsA, nilA, dTup, dLst, frz, retS, retM, setM, exS, mutS, appO, opC, callE, callM, callG_eq, cnsB, nilB, slB, kwB, ioM, toArgs, okA, slsA, nodN, argG_some, goG_ok, asE, asM, putA, newM, putM, parS, par3S, frzS, frzAt, bindO, endR_rt, endR_nx, endG, FL.collect, bodyG_eq, rho0, toS, wipeR, FL.pick, tru, truD, chn, lenM, isiD, typD, isTy,   List.getElem?_cons_zero, List.getElem?_cons_succ, List.getElem?_nil, List.set_cons_zero, List.set_cons_succ, List.set_nil, List.length_cons, List.length_nil, List.mapIdx_cons, List.mapIdx_nil, List.map_cons, List.map_nil, List.replicate_succ, List.replicate_zero, List.cons_append, List.nil_append, List.append_nil, List.foldl_cons, List.foldl_nil, List.filterMap_cons, List.filterMap_nil, Option.map_some, Option.map_none, Option.bind_some, Option.bind_none, Bool.not_true, Bool.not_false, Bool.and_true, Bool.true_and, Bool.or_true, Bool.and_self, if_true, if_false,   eqA_int, neA_int, eqA_str, neA_str, ltD_int, leD_int, gtD_int, geD_int, addD_int, subD_int, negD_int, absC_int, intC_int, maxC_int, minC_int, lenC_lst, lenC_tup, lenC_scr, Int.cast_ofNat_Int, Int.natCast_zero, Int.natCast_one,   ↓reduceIte, Nat.reduceAdd, Nat.reduceSub, Nat.reduceMul, Nat.reduceLT, Nat.reduceLeDiff, Nat.reduceBEq, Nat.reduceBneDiff, Nat.reduceEqDiff, Nat.reducePow, Int.reduceLT, Int.reduceLE, Int.reduceEq, Int.reduceNe, Int.reduceAdd, Int.reduceSub, Int.reduceMul, Int.reduceNeg, Int.reducePow, Int.reduceToNat, decide_true, decide_false, decide_eq_true_eq, Bool.false_eq_true, List.contains_nil, List.contains_cons, Bool.or_false, Bool.or_self, eq_self, and_self, and_true, true_and, e1, e2, small]
  · obtain ⟨d2, s2, e2, b0, b1, h2⟩ := drip_ok h1 (k := m - 1) (by omega) (by omega) (by omega)
    have pl : 2 ≤ 2 + d2 := by omega
    generalize hp : 2 + d2 = p at pl
    have r : rng2 (cnsA (cst (.int 1)) (cnsA (vr 2) nilA)) [.io s2, .val (.int m), .val (.int p), .no] = .ok (rangeL 1 (p - 1).toNat) [.io s2, .val (.int m), .val (.int p), .no] := by
      have g1 : rgOk 1 = true := rfl
      have g2 : rgOk p = true := rgOk_of (by omega) (by omega)
      simp only [rng2, seqS_eq, nxS, bkS, ctS, nxt_nx, nxt_rt, nxt_bk, nxt_ct, ifS_eq, ifE_eq, brR_t, brR_f, brR_dec, anT_eq, orT_eq, anE_eq, orE_eq, tst_eq, isB_bl, ↓R.bind_bd, R.bd_ok, R.of_some, noT, blE, vr, cst, op1, op2, setS, setR, nxO, asgS, tupG, cnsG, nilG, nmG, subGO, subG, subS, getM, ixM, putO, cnsA, nilA, dTup, dLst, frz, retS, retM, setM, exS, mutS, appO, opC, callE, callM, callG_eq, cnsB, nilB, slB, kwB, ioM, toArgs, okA, slsA, nodN, argG_some, goG_ok, asE, asM, putA, newM, putM, parS, par3S, frzS, frzAt, bindO, endR_rt, endR_nx, endG, FL.collect, bodyG_eq, rho0, toS, wipeR, FL.pick, tru, truD, chn, lenM, isiD, typD, isTy,   List.getElem?_cons_zero, List.getElem?_cons_succ, List.getElem?_nil, List.set_cons_zero, List.set_cons_succ, List.set_nil, List.length_cons, List.length_nil, List.mapIdx_cons, List.mapIdx_nil, List.map_cons, List.map_nil, List.replicate_succ, List.replicate_zero, List.cons_append, List.nil_append, List.append_nil, List.foldl_cons, List.foldl_nil, List.filterMap_cons, List.filterMap_nil, Option.map_some, Option.map_none, Option.bind_some, Option.bind_none, Bool.not_true, Bool.not_false, Bool.and_true, Bool.true_and, Bool.or_true, Bool.and_self, if_true, if_false,   eqA_int, neA_int, eqA_str, neA_str, ltD_int, leD_int, gtD_int, geD_int, addD_int, subD_int, negD_int, absC_int, intC_int, maxC_int, minC_int, lenC_lst, lenC_tup, lenC_scr, Int.cast_ofNat_Int, Int.natCast_zero, Int.natCast_one,   ↓reduceIte, Nat.reduceAdd, Nat.reduceSub, Nat.reduceMul, Nat.reduceLT, Nat.reduceLeDiff, Nat.reduceBEq, Nat.reduceBneDiff, Nat.reduceEqDiff, Nat.reducePow, Int.reduceLT, Int.reduceLE, Int.reduceEq, Int.reduceNe, Int.reduceAdd, Int.reduceSub, Int.reduceMul, Int.reduceNeg, Int.reducePow, Int.reduceToNat, decide_true, decide_false, decide_eq_true_eq, Bool.false_eq_true, List.contains_nil, List.contains_cons, Bool.or_false, Bool.or_self, eq_self, and_self, and_true, true_and, g1, g2, and_self]
    obtain ⟨ρ', e3, rfl⟩ := cmpL_pure (ks := [3]) (g := nmG 3) (t := tst (op2 eqA (callE 2 G__law_gcd (cnsB (vr 2) (cnsB (vr 3) nilB))) (cst (.int 1)))) (f := dTup (cnsA (vr 2) (cnsA (vr 3) nilA)))
      (fun ρ => ρ = [.io s2, .val (.int m), .val (.int p), .no]) (copB p) (fun d => D.tup [.int p, d]) (rangeL 1 (p - 1).toNat) [] [.io s2, .val (.int m), .val (.int p), .no]
      (by rw [rangeL_length, List.length_nil]; omega) rfl (fun d hd ρ hρ => by
        subst hρ
        obtain ⟨i, rfl, i0, i1⟩ := (rangeL_mem _ _ _).mp hd
        have gb : p * i < 2 ^ 250 := by
          have : p * i ≤ 100000 * 100000 := Int.mul_le_mul (by omega) (by omega) (by omega) (by omega)
          have : (10000000000 : Int) < 2 ^ 250 := by decide +kernel
          omega
        have g := gcd_ok (a := p) (b := i) (by omega) (by omega) gb
        have ei : ((Int.gcd p i : Nat) : Int) = 1 ↔ Int.gcd p i = 1 := by omega
        refine ⟨[.io s2, .val (.int m), .val (.int p), .val (.int i)], [.io s2, .val (.int m), .val (.int p), .val (.int i)], by simp only [seqS_eq, nxS, bkS, ctS, nxt_nx, nxt_rt, nxt_bk, nxt_ct, ifS_eq, ifE_eq, brR_t, brR_f, brR_dec, anT_eq, orT_eq, anE_eq, orE_eq, tst_eq, isB_bl, ↓R.bind_bd, R.bd_ok, R.of_some, noT, blE, vr, cst, op1, op2, setS, setR, nxO, asgS, tupG, cnsG, nilG, nmG, subGO, subG, subS, getM, ixM, putO, cnsA, nilA, dTup, dLst, frz, retS, retM, setM, exS, mutS, appO, opC, callE, callM, callG_eq, cnsB, nilB, slB, kwB, ioM, toArgs, okA, slsA, nodN, argG_some, goG_ok, asE, asM, putA, newM, putM, parS, par3S, frzS, frzAt, bindO, endR_rt, endR_nx, endG, FL.collect, bodyG_eq, rho0, toS, wipeR, FL.pick, tru, truD, chn, lenM, isiD, typD, isTy,   List.getElem?_cons_zero, List.getElem?_cons_succ, List.getElem?_nil, List.set_cons_zero, List.set_cons_succ, List.set_nil, List.length_cons, List.length_nil, List.mapIdx_cons, List.mapIdx_nil, List.map_cons, List.map_nil, List.replicate_succ, List.replicate_zero, List.cons_append, List.nil_append, List.append_nil, List.foldl_cons, List.foldl_nil, List.filterMap_cons, List.filterMap_nil, Option.map_some, Option.map_none, Option.bind_some, Option.bind_none, Bool.not_true, Bool.not_false, Bool.and_true, Bool.true_and, Bool.or_true, Bool.and_self, if_true, if_false,   eqA_int, neA_int, eqA_str, neA_str, ltD_int, leD_int, gtD_int, geD_int, addD_int, subD_int, negD_int, absC_int, intC_int, maxC_int, minC_int, lenC_lst, lenC_tup, lenC_scr, Int.cast_ofNat_Int, Int.natCast_zero, Int.natCast_one,   ↓reduceIte, Nat.reduceAdd, Nat.reduceSub, Nat.reduceMul, Nat.reduceLT, Nat.reduceLeDiff, Nat.reduceBEq, Nat.reduceBneDiff, Nat.reduceEqDiff, Nat.reducePow, Int.reduceLT, Int.reduceLE, Int.reduceEq, Int.reduceNe, Int.reduceAdd, Int.reduceSub, Int.reduceMul, Int.reduceNeg, Int.reducePow, Int.reduceToNat, decide_true, decide_false, decide_eq_true_eq, Bool.false_eq_true, List.contains_nil, List.contains_cons, Bool.or_false, Bool.or_self, eq_self, and_self, and_true, true_and], ?_, fun _ => by simp only [seqS_eq, nxS, bkS, ctS, nxt_nx, nxt_rt, nxt_bk, nxt_ct, ifS_eq, ifE_eq, brR_t, brR_f, brR_dec, anT_eq, orT_eq, anE_eq, orE_eq, tst_eq, isB_bl, ↓R.bind_bd, R.bd_ok, R.of_some, noT, blE, vr, cst, op1, op2, setS, setR, nxO, asgS, tupG, cnsG, nilG, nmG, subGO, subG, subS, getM, ixM, putO, cnsA, nilA, dTup, dLst, frz, retS, retM, setM, exS, mutS, appO, opC, callE, callM, callG_eq, cnsB, nilB, slB, kwB, ioM, toArgs, okA, slsA, nodN, argG_some, goG_ok, asE, asM, putA, newM, putM, parS, par3S, frzS, frzAt, bindO, endR_rt, endR_nx, endG, FL.collect, bodyG_eq, rho0, toS, wipeR, FL.pick, tru, truD, chn, lenM, isiD, typD, isTy,   List.getElem?_cons_zero, List.getElem?_cons_succ, List.getElem?_nil, List.set_cons_zero, List.set_cons_succ, List.set_nil, List.length_cons, List.length_nil, List.mapIdx_cons, List.mapIdx_nil, List.map_cons, List.map_nil, List.replicate_succ, List.replicate_zero, List.cons_append, List.nil_append, List.append_nil, List.foldl_cons, List.foldl_nil, List.filterMap_cons, List.filterMap_nil, Option.map_some, Option.map_none, Option.bind_some, Option.bind_none, Bool.not_true, Bool.not_false, Bool.and_true, Bool.true_and, Bool.or_true, Bool.and_self, if_true, if_false,   eqA_int, neA_int, eqA_str, neA_str, ltD_int, leD_int, gtD_int, geD_int, addD_int, subD_int, negD_int, absC_int, intC_int, maxC_int, minC_int, lenC_lst, lenC_tup, lenC_scr, Int.cast_ofNat_Int, Int.natCast_zero, Int.natCast_one,   ↓reduceIte, Nat.reduceAdd, Nat.reduceSub, Nat.reduceMul, Nat.reduceLT, Nat.reduceLeDiff, Nat.reduceBEq, Nat.reduceBneDiff, Nat.reduceEqDiff, Nat.reducePow, Int.reduceLT, Int.reduceLE, Int.reduceEq, Int.reduceNe, Int.reduceAdd, Int.reduceSub, Int.reduceMul, Int.reduceNeg, Int.reducePow, Int.reduceToNat, decide_true, decide_false, decide_eq_true_eq, Bool.false_eq_true, List.contains_nil, List.contains_cons, Bool.or_false, Bool.or_self, eq_self, and_self, and_true, true_and], fun _ => ⟨[.io s2, .val (.int m), .val (.int p), .val (.int i)], ?_, by simp only [seqS_eq, nxS, bkS, ctS, nxt_nx, nxt_rt, nxt_bk, nxt_ct, ifS_eq, ifE_eq, brR_t, brR_f, brR_dec, anT_eq, orT_eq, anE_eq, orE_eq, tst_eq, isB_bl, ↓R.bind_bd, R.bd_ok, R.of_some, noT, blE, vr, cst, op1, op2, setS, setR, nxO, asgS, tupG, cnsG, nilG, nmG, subGO, subG, subS, getM, ixM, putO, cnsA, nilA, dTup, dLst, frz, retS, retM, setM, exS, mutS, appO, opC, callE, callM, callG_eq, cnsB, nilB, slB, kwB, ioM, toArgs, okA, slsA, nodN, argG_some, goG_ok, asE, asM, putA, newM, putM, parS, par3S, frzS, frzAt, bindO, endR_rt, endR_nx, endG, FL.collect, bodyG_eq, rho0, toS, wipeR, FL.pick, tru, truD, chn, lenM, isiD, typD, isTy,   List.getElem?_cons_zero, List.getElem?_cons_succ, List.getElem?_nil, List.set_cons_zero, List.set_cons_succ, List.set_nil, List.length_cons, List.length_nil, List.mapIdx_cons, List.mapIdx_nil, List.map_cons, List.map_nil, List.replicate_succ, List.replicate_zero, List.cons_append, List.nil_append, List.append_nil, List.foldl_cons, List.foldl_nil, List.filterMap_cons, List.filterMap_nil, Option.map_some, Option.map_none, Option.bind_some, Option.bind_none, Bool.not_true, Bool.not_false, Bool.and_true, Bool.true_and, Bool.or_true, Bool.and_self, if_true, if_false,   eqA_int, neA_int, eqA_str, neA_str, ltD_int, leD_int, gtD_int, geD_int, addD_int, subD_int, negD_int, absC_int, intC_int, maxC_int, minC_int, lenC_lst, lenC_tup, lenC_scr, Int.cast_ofNat_Int, Int.natCast_zero, Int.natCast_one,   ↓reduceIte, Nat.reduceAdd, Nat.reduceSub, Nat.reduceMul, Nat.reduceLT, Nat.reduceLeDiff, Nat.reduceBEq, Nat.reduceBneDiff, Nat.reduceEqDiff, Nat.reducePow, Int.reduceLT, Int.reduceLE, Int.reduceEq, Int.reduceNe, Int.reduceAdd, Int.reduceSub, Int.reduceMul, Int.reduceNeg, Int.reducePow, Int.reduceToNat, decide_true, decide_false, decide_eq_true_eq, Bool.false_eq_true, List.contains_nil, List.contains_cons, Bool.or_false, Bool.or_self, eq_self, and_self, and_true, true_and]⟩⟩
        · simp only [seqS_eq, nxS, bkS, ctS, nxt_nx, nxt_rt, nxt_bk, nxt_ct, ifS_eq, ifE_eq, brR_t, brR_f, brR_dec, anT_eq, orT_eq, anE_eq, orE_eq, tst_eq, isB_bl, ↓R.bind_bd, R.bd_ok, R.of_some, noT, blE, vr, cst, op1, op2, setS, setR, nxO, asgS, tupG, cnsG, nilG, nmG, subGO, subG, subS, getM, ixM, putO, cnsA, nilA, dTup, dLst, frz, retS, retM, setM, exS, mutS, appO, opC, callE, callM, callG_eq, cnsB, nilB, slB, kwB, ioM, toArgs, okA, slsA, nodN, argG_some, goG_ok, asE, asM, putA, newM, putM, parS, par3S, frzS, frzAt, bindO, endR_rt, endR_nx, endG, FL.collect, bodyG_eq, rho0, toS, wipeR, FL.pick, tru, truD, chn, lenM, isiD, typD, isTy,   List.getElem?_cons_zero, List.getElem?_cons_succ, List.getElem?_nil, List.set_cons_zero, List.set_cons_succ, List.set_nil, List.length_cons, List.length_nil, List.mapIdx_cons, List.mapIdx_nil, List.map_cons, List.map_nil, List.replicate_succ, List.replicate_zero, List.cons_append, List.nil_append, List.append_nil, List.foldl_cons, List.foldl_nil, List.filterMap_cons, List.filterMap_nil, Option.map_some, Option.map_none, Option.bind_some, Option.bind_none, Bool.not_true, Bool.not_false, Bool.and_true, Bool.true_and, Bool.or_true, Bool.and_self, if_true, if_false,   eqA_int, neA_int, eqA_str, neA_str, ltD_int, leD_int, gtD_int, geD_int, addD_int, subD_int, negD_int, absC_int, intC_int, maxC_int, minC_int, lenC_lst, lenC_tup, lenC_scr, Int.cast_ofNat_Int, Int.natCast_zero, Int.natCast_one,   ↓reduceIte, Nat.reduceAdd, Nat.reduceSub, Nat.reduceMul, Nat.reduceLT, Nat.reduceLeDiff, Nat.reduceBEq, Nat.reduceBneDiff, Nat.reduceEqDiff, Nat.reducePow, Int.reduceLT, Int.reduceLE, Int.reduceEq, Int.reduceNe, Int.reduceAdd, Int.reduceSub, Int.reduceMul, Int.reduceNeg, Int.reducePow, Int.reduceToNat, decide_true, decide_false, decide_eq_true_eq, Bool.false_eq_true, List.contains_nil, List.contains_cons, Bool.or_false, Bool.or_self, eq_self, and_self, and_true, true_and, g, ei, copB]
        · simp only [seqS_eq, nxS, bkS, ctS, nxt_nx, nxt_rt, nxt_bk, nxt_ct, ifS_eq, ifE_eq, brR_t, brR_f, brR_dec, anT_eq, orT_eq, anE_eq, orE_eq, tst_eq, isB_bl, ↓R.bind_bd, R.bd_ok, R.of_some, noT, blE, vr, cst, op1, op2, setS, setR, nxO, asgS, tupG, cnsG, nilG, nmG, subGO, subG, subS, getM, ixM, putO, cnsA, nilA, dTup, dLst, frz, retS, retM, setM, exS, mutS, appO, opC, callE, callM, callG_eq, cnsB, nilB, slB, kwB, ioM, toArgs, okA, slsA, nodN, argG_some, goG_ok, asE, asM, putA, newM, putM, parS, par3S, frzS, frzAt, bindO, endR_rt, endR_nx, endG, FL.collect, bodyG_eq, rho0, toS, wipeR, FL.pick, tru, truD, chn, lenM, isiD, typD, isTy,   List.getElem?_cons_zero, List.getElem?_cons_succ, List.getElem?_nil, List.set_cons_zero, List.set_cons_succ, List.set_nil, List.length_cons, List.length_nil, List.mapIdx_cons, List.mapIdx_nil, List.map_cons, List.map_nil, List.replicate_succ, List.replicate_zero, List.cons_append, List.nil_append, List.append_nil, List.foldl_cons, List.foldl_nil, List.filterMap_cons, List.filterMap_nil, Option.map_some, Option.map_none, Option.bind_some, Option.bind_none, Bool.not_true, Bool.not_false, Bool.and_true, Bool.true_and, Bool.or_true, Bool.and_self, if_true, if_false,   eqA_int, neA_int, eqA_str, neA_str, ltD_int, leD_int, gtD_int, geD_int, addD_int, subD_int, negD_int, absC_int, intC_int, maxC_int, minC_int, lenC_lst, lenC_tup, lenC_scr, Int.cast_ofNat_Int, Int.natCast_zero, Int.natCast_one,   ↓reduceIte, Nat.reduceAdd, Nat.reduceSub, Nat.reduceMul, Nat.reduceLT, Nat.reduceLeDiff, Nat.reduceBEq, Nat.reduceBneDiff, Nat.reduceEqDiff, Nat.reducePow, Int.reduceLT, Int.reduceLE, Int.reduceEq, Int.reduceNe, Int.reduceAdd, Int.reduceSub, Int.reduceMul, Int.reduceNeg, Int.reducePow, Int.reduceToNat, decide_true, decide_false, decide_eq_true_eq, Bool.false_eq_true, List.contains_nil, List.contains_cons, Bool.or_false, Bool.or_self, eq_self, and_self, and_true, true_and, small])
    obtain ⟨ne, al⟩ := coprimes_of pl
    obtain ⟨d, s3, hm, e4, h3⟩ := any_ok h2 ne (by rw [List.length_map]; refine Nat.le_trans (List.length_filter_le _ _) ?_; rw [rangeL_length]; omega) (by omega)
    obtain ⟨q, rfl, q0, q1, hg⟩ := al d hm
    refine ⟨p, q, s3, ?_, .inr (.inr ⟨pl, by omega, q0, q1, hg⟩), h3.mono (by omega)⟩
    rw [List.nil_append] at e3
    simp only [G__law_some_pair, g__law_some_pair, seqS_eq, nxS, bkS, ctS, nxt_nx, nxt_rt, nxt_bk, nxt_ct, ifS_eq, ifE_eq, brR_t, brR_f, brR_dec, anT_eq, orT_eq, anE_eq, orE_eq, tst_eq, isB_bl, ↓R.bind_bd, R.bd_ok, R.of_some, noT, blE, vr, cst, op1, op2, setS, setR, nxO, asgS, tupG, cnsG, nilG, nmG, subGO, subG, subS, getM, ixM, putO, cnsA, nilA, dTup, dLst, frz, retS, retM, setM, exS, mutS, appO, opC, callE, callM, callG_eq, cnsB, nilB, slB, kwB, ioM, toArgs, okA, slsA, nodN, argG_some, goG_ok, asE, asM, putA, newM, putM, parS, par3S, frzS, frzAt, bindO, endR_rt, endR_nx, endG, FL.collect, bodyG_eq, rho0, toS, wipeR, FL.pick, tru, truD, chn, lenM, isiD, typD, isTy,   List.getElem?_cons_zero, List.getElem?_cons_succ, List.getElem?_nil, List.set_cons_zero, List.set_cons_succ, List.set_nil, List.length_cons, List.length_nil, List.mapIdx_cons, List.mapIdx_nil, List.map_cons, List.map_nil, List.replicate_succ, List.replicate_zero, List.cons_append, List.nil_append, List.append_nil, List.foldl_cons, List.foldl_nil, List.filterMap_cons, List.filterMap_nil, Option.map_some, Option.map_none, Option.bind_some, Option.bind_none, Bool.not_true, Bool.not_false, Bool.and_true, Bool.true_and, Bool.or_true, Bool.and_self, if_true, if_false,   eqA_int, neA_int, eqA_str, neA_str, ltD_int, leD_int, gtD_int, geD_int, addD_int, subD_int, negD_int, absC_int, intC_int, maxC_int, minC_int, lenC_lst, lenC_tup, lenC_scr, Int.cast_ofNat_Int, Int.natCast_zero, Int.natCast_one,   ↓reduceIte, Nat.reduceAdd, Nat.reduceSub, Nat.reduceMul, Nat.reduceLT, Nat.reduceLeDiff, Nat.reduceBEq, Nat.reduceBneDiff, Nat.reduceEqDiff, Nat.reducePow, Int.reduceLT, Int.reduceLE, Int.reduceEq, Int.reduceNe, Int.reduceAdd, Int.reduceSub, Int.reduceMul, Int.reduceNeg, Int.reducePow, Int.reduceToNat, decide_true, decide_false, decide_eq_true_eq, Bool.false_eq_true, List.contains_nil, List.contains_cons, Bool.or_false, Bool.or_self, eq_self, and_self, and_true, true_and, e1, hd, e2, hp, cmpM, r, e3, resR, e4]

theorem mate_ok {n : Nat} {s : M} (hs : Sp n s) {p q m : Int} (h : SomeP m p q) (m1 : m ≤ 90000) (hn : n ≤ 900000000) : ∃ (q' : Int) (s' : M), G__law_mate [.io s, .val (.tup [.int p, .int q])] = .ok (.v (.tup [.int p, .int q'])) [s'] ∧ SomeP m p q' ∧ Sp (n + 1) s' := by
  have a0 : ixD (.tup [.int p, .int q]) (.int 0) = some (.int p) := rfl
  by_cases hp : p < 2
  · refine ⟨q, s, ?_, h, hs.mono (by omega)⟩
    simp only [G__law_mate, g__law_mate, seqS_eq, nxS, bkS, ctS, nxt_nx, nxt_rt, nxt_bk, nxt_ct, ifS_eq, ifE_eq, brR_t, brR_f, brR_dec, anT_eq, orT_eq, anE_eq, orE_eq, tst_eq, isB_bl, ↓R.bind_bd, R.bd_ok, R.of_some, noT, blE, vr, cst, op1, op2, setS, setR, nxO, asgS, tupG, cnsG, nilG, nmG, subGO, subG, subS, getM, ixM, putO, cnsA, nilA, dTup, dLst, frz, retS, retM, setM, exS, mutS, appO, opC, callE, callM, callG_eq, cnsB, nilB, slB, kwB, ioM, toArgs, okA, slsA, nodN, argG_some, goG_ok, asE, asM, putA, newM, putM, parS, par3S, frzS, frzAt, bindO, endR_rt, endR_nx, endG, FL.collect, bodyG_eq, rho0, toS, wipeR, FL.pick, tru, truD, chn, lenM, isiD, typD, isTy,   List.getElem?_cons_zero, List.getElem?_cons_succ, List.getElem?_nil, List.set_cons_zero, List.set_cons_succ, List.set_nil, List.length_cons, List.length_nil, List.mapIdx_cons, List.mapIdx_nil, List.map_cons, List.map_nil, List.replicate_succ, List.replicate_zero, List.cons_append, List.nil_append, List.append_nil, List.foldl_cons, List.foldl_nil, List.filterMap_cons, List.filterMap_nil, Option.map_some, Option.map_none, Option.bind_some, Option.bind_none, Bool.not_true, Bool.not_false, Bool.and_true, Bool.true_and, Bool.or_true, Bool.and_self, if_true, if_false,   eqA_int, neA_int, eqA_str, neA_str, ltD_int, leD_int, gtD_int, geD_int, addD_int, subD_int, negD_int, absC_int, intC_int, maxC_int, minC_int, lenC_lst, lenC_tup, lenC_scr, Int.cast_ofNat_Int, Int.natCast_zero, Int.natCast_one,   ↓reduceIte, Nat.reduceAdd, Nat.reduceSub, Nat.reduceMul, Nat.reduceLT, Nat.reduceLeDiff, Nat.reduceBEq, Nat.reduceBneDiff, Nat.reduceEqDiff, Nat.reducePow, Int.reduceLT, Int.reduceLE, Int.reduceEq, Int.reduceNe, Int.reduceAdd, Int.reduceSub, Int.reduceMul, Int.reduceNeg, Int.reducePow, Int.reduceToNat, decide_true, decide_false, decide_eq_true_eq, Bool.false_eq_true, List.contains_nil, List.contains_cons, Bool.or_false, Bool.or_self, eq_self, and_self, and_true, true_and, a0, hp]
  · have pl : 2 ≤ p := by omega
    have pm : p ≤ m := by
      rcases h with h | h | h <;> omega
    have r : rng2 (cnsA (cst (.int 1)) (cnsA (op2 ixD (vr 1) (cst (.int 0))) nilA)) [.io s, .val (.tup [.int p, .int q]), .no] = .ok (rangeL 1 (p - 1).toNat) [.io s, .val (.tup [.int p, .int q]), .no] := by
      have g1 : rgOk 1 = true := rfl
      have g2 : rgOk p = true := rgOk_of (by omega) (by omega)
      simp only [rng2, seqS_eq, nxS, bkS, ctS, nxt_nx, nxt_rt, nxt_bk, nxt_ct, ifS_eq, ifE_eq, brR_t, brR_f, brR_dec, anT_eq, orT_eq, anE_eq, orE_eq, tst_eq, isB_bl, ↓R.bind_bd, R.bd_ok, R.of_some, noT, blE, vr, cst, op1, op2, setS, setR, nxO, asgS, tupG, cnsG, nilG, nmG, subGO, subG, subS, getM, ixM, putO, cnsA, nilA, dTup, dLst, frz, retS, retM, setM, exS, mutS, appO, opC, callE, callM, callG_eq, cnsB, nilB, slB, kwB, ioM, toArgs, okA, slsA, nodN, argG_some, goG_ok, asE, asM, putA, newM, putM, parS, par3S, frzS, frzAt, bindO, endR_rt, endR_nx, endG, FL.collect, bodyG_eq, rho0, toS, wipeR, FL.pick, tru, truD, chn, lenM, isiD, typD, isTy,   List.getElem?_cons_zero, List.getElem?_cons_succ, List.getElem?_nil, List.set_cons_zero, List.set_cons_succ, List.set_nil, List.length_cons, List.length_nil, List.mapIdx_cons, List.mapIdx_nil, List.map_cons, List.map_nil, List.replicate_succ, List.replicate_zero, List.cons_append, List.nil_append, List.append_nil, List.foldl_cons, List.foldl_nil, List.filterMap_cons, List.filterMap_nil, Option.map_some, Option.map_none, Option.bind_some, Option.bind_none, Bool.not_true, Bool.not_false, Bool.and_true, Bool.true_and, Bool.or_true, Bool.and_self, if_true, if_false,   eqA_int, neA_int, eqA_str, neA_str, ltD_int, leD_int, gtD_int, geD_int, addD_int, subD_int, negD_int, absC_int, intC_int, maxC_int, minC_int, lenC_lst, lenC_tup, lenC_scr, Int.cast_ofNat_Int, Int.natCast_zero, Int.natCast_one,   ↓reduceIte, Nat.reduceAdd, Nat.reduceSub, Nat.reduceMul, Nat.reduceLT, Nat.reduceLeDiff, Nat.reduceBEq, Nat.reduceBneDiff, Nat.reduceEqDiff, Nat.reducePow, Int.reduceLT, Int.reduceLE, Int.reduceEq, Int.reduceNe, Int.reduceAdd, Int.reduceSub, Int.reduceMul, Int.reduceNeg, Int.reducePow, Int.reduceToNat, decide_true, decide_false, decide_eq_true_eq, Bool.false_eq_true, List.contains_nil, List.contains_cons, Bool.or_false, Bool.or_self, eq_self, and_self, and_true, true_and, a0, g1, g2, and_self]
    obtain ⟨ρ', e3, rfl⟩ := cmpL_pure (ks := [2]) (g := nmG 2) (t := tst (op2 eqA (callE 2 G__law_gcd (cnsB (op2 ixD (vr 1) (cst (.int 0))) (cnsB (vr 2) nilB))) (cst (.int 1)))) (f := dTup (cnsA (op2 ixD (vr 1) (cst (.int 0))) (cnsA (vr 2) nilA)))
      (fun ρ => ρ = [.io s, .val (.tup [.int p, .int q]), .no]) (copB p) (fun d => D.tup [.int p, d]) (rangeL 1 (p - 1).toNat) [] [.io s, .val (.tup [.int p, .int q]), .no]
      (by rw [rangeL_length, List.length_nil]; omega) rfl (fun d hd ρ hρ => by
        subst hρ
        obtain ⟨i, rfl, i0, i1⟩ := (rangeL_mem _ _ _).mp hd
        have gb : p * i < 2 ^ 250 := by
          have : p * i ≤ 100000 * 100000 := Int.mul_le_mul (by omega) (by omega) (by omega) (by omega)
          have : (10000000000 : Int) < 2 ^ 250 := by decide +kernel
          omega
        have g := gcd_ok (a := p) (b := i) (by omega) (by omega) gb
        have ei : ((Int.gcd p i : Nat) : Int) = 1 ↔ Int.gcd p i = 1 := by omega
        refine ⟨[.io s, .val (.tup [.int p, .int q]), .val (.int i)], [.io s, .val (.tup [.int p, .int q]), .val (.int i)], by simp only [seqS_eq, nxS, bkS, ctS, nxt_nx, nxt_rt, nxt_bk, nxt_ct, ifS_eq, ifE_eq, brR_t, brR_f, brR_dec, anT_eq, orT_eq, anE_eq, orE_eq, tst_eq, isB_bl, ↓R.bind_bd, R.bd_ok, R.of_some, noT, blE, vr, cst, op1, op2, setS, setR, nxO, asgS, tupG, cnsG, nilG, nmG, subGO, subG, subS, getM, ixM, putO, cnsA, nilA, dTup, dLst, frz, retS, retM, setM, exS, mutS, appO, opC, callE, callM, callG_eq, cnsB, nilB, slB, kwB, ioM, toArgs, okA, slsA, nodN, argG_some, goG_ok, asE, asM, putA, newM, putM, parS, par3S, frzS, frzAt, bindO, endR_rt, endR_nx, endG, FL.collect, bodyG_eq, rho0, toS, wipeR, FL.pick, tru, truD, chn, lenM, isiD, typD, isTy,   List.getElem?_cons_zero, List.getElem?_cons_succ, List.getElem?_nil, List.set_cons_zero, List.set_cons_succ, List.set_nil, List.length_cons, List.length_nil, List.mapIdx_cons, List.mapIdx_nil, List.map_cons, List.map_nil, List.replicate_succ, List.replicate_zero, List.cons_append, List.nil_append, List.append_nil, List.foldl_cons, List.foldl_nil, List.filterMap_cons, List.filterMap_nil, Option.map_some, Option.map_none, Option.bind_some, Option.bind_none, Bool.not_true, Bool.not_false, Bool.and_true, Bool.true_and, Bool.or_true, Bool.and_self, if_true, if_false,   eqA_int, neA_int, eqA_str, neA_str, ltD_int, leD_int, gtD_int, geD_int, addD_int, subD_int, negD_int, absC_int, intC_int, maxC_int, minC_int, lenC_lst, lenC_tup, lenC_scr, Int.cast_ofNat_Int, Int.natCast_zero, Int.natCast_one,   ↓reduceIte, Nat.reduceAdd, Nat.reduceSub, Nat.reduceMul, Nat.reduceLT, Nat.reduceLeDiff, Nat.reduceBEq, Nat.reduceBneDiff, Nat.reduceEqDiff, Nat.reducePow, Int.reduceLT, Int.reduceLE, Int.reduceEq, Int.reduceNe, Int.reduceAdd, Int.reduceSub, Int.reduceMul, Int.reduceNeg, Int.reducePow, Int.reduceToNat, decide_true, decide_false, decide_eq_true_eq, Bool.false_eq_true, List.contains_nil, List.contains_cons, Bool.or_false, Bool.or_self, eq_self, and_self, and_true, true_and], ?_, fun _ => by simp only [seqS_eq, nxS, bkS, ctS, nxt_nx, nxt_rt, nxt_bk, nxt_ct, ifS_eq, ifE_eq, brR_t, brR_f, brR_dec, anT_eq, orT_eq, anE_eq, orE_eq, tst_eq, isB_bl, ↓R.bind_bd, R.bd_ok, R.of_some, noT, blE, vr, cst, op1, op2, setS, setR, nxO, asgS, tupG, cnsG, nilG, nmG, subGO, subG, subS, getM, ixM, putO, cnsA, nilA, dTup, dLst, frz, retS, retM, setM, exS, mutS, appO, opC, callE, callM, callG_eq, cnsB, nilB, slB, kwB, ioM, toArgs, okA, slsA, nodN, argG_some, goG_ok, asE, asM, putA, newM, putM, parS, par3S, frzS, frzAt, bindO, endR_rt, endR_nx, endG, FL.collect, bodyG_eq, rho0, toS, wipeR, FL.pick, tru, truD, chn, lenM, isiD, typD, isTy,   List.getElem?_cons_zero, List.getElem?_cons_succ, List.getElem?_nil, List.set_cons_zero, List.set_cons_succ, List.set_nil, List.length_cons, List.length_nil, List.mapIdx_cons, List.mapIdx_nil, List.map_cons, List.map_nil, List.replicate_succ, List.replicate_zero, List.cons_append, List.nil_append, List.append_nil, List.foldl_cons, List.foldl_nil, List.filterMap_cons, List.filterMap_nil, Option.map_some, Option.map_none, Option.bind_some, Option.bind_none, Bool.not_true, Bool.not_false, Bool.and_true, Bool.true_and, Bool.or_true, Bool.and_self, if_true, if_false,   eqA_int, neA_int, eqA_str, neA_str, ltD_int, leD_int, gtD_int, geD_int, addD_int, subD_int, negD_int, absC_int, intC_int, maxC_int, minC_int, lenC_lst, lenC_tup, lenC_scr, Int.cast_ofNat_Int, Int.natCast_zero, Int.natCast_one,   ↓reduceIte, Nat.reduceAdd, Nat.reduceSub, Nat.reduceMul, Nat.reduceLT, Nat.reduceLeDiff, Nat.reduceBEq, Nat.reduceBneDiff, Nat.reduceEqDiff, Nat.reducePow, Int.reduceLT, Int.reduceLE, Int.reduceEq, Int.reduceNe, Int.reduceAdd, Int.reduceSub, Int.reduceMul, Int.reduceNeg, Int.reducePow, Int.reduceToNat, decide_true, decide_false, decide_eq_true_eq, Bool.false_eq_true, List.contains_nil, List.contains_cons, Bool.or_false, Bool.or_self, eq_self, and_self, and_true, true_and], fun _ => ⟨[.io s, .val (.tup [.int p, .int q]), .val (.int i)], ?_, by simp only [seqS_eq, nxS, bkS, ctS, nxt_nx, nxt_rt, nxt_bk, nxt_ct, ifS_eq, ifE_eq, brR_t, brR_f, brR_dec, anT_eq, orT_eq, anE_eq, orE_eq, tst_eq, isB_bl, ↓R.bind_bd, R.bd_ok, R.of_some, noT, blE, vr, cst, op1, op2, setS, setR, nxO, asgS, tupG, cnsG, nilG, nmG, subGO, subG, subS, getM, ixM, putO, cnsA, nilA, dTup, dLst, frz, retS, retM, setM, exS, mutS, appO, opC, callE, callM, callG_eq, cnsB, nilB, slB, kwB, ioM, toArgs, okA, slsA, nodN, argG_some, goG_ok, asE, asM, putA, newM, putM, parS, par3S, frzS, frzAt, bindO, endR_rt, endR_nx, endG, FL.collect, bodyG_eq, rho0, toS, wipeR, FL.pick, tru, truD, chn, lenM, isiD, typD, isTy,   List.getElem?_cons_zero, List.getElem?_cons_succ, List.getElem?_nil, List.set_cons_zero, List.set_cons_succ, List.set_nil, List.length_cons, List.length_nil, List.mapIdx_cons, List.mapIdx_nil, List.map_cons, List.map_nil, List.replicate_succ, List.replicate_zero, List.cons_append, List.nil_append, List.append_nil, List.foldl_cons, List.foldl_nil, List.filterMap_cons, List.filterMap_nil, Option.map_some, Option.map_none, Option.bind_some, Option.bind_none, Bool.not_true, Bool.not_false, Bool.and_true, Bool.true_and, Bool.or_true, Bool.and_self, if_true, if_false,   eqA_int, neA_int, eqA_str, neA_str, ltD_int, leD_int, gtD_int, geD_int, addD_int, subD_int, negD_int, absC_int, intC_int, maxC_int, minC_int, lenC_lst, lenC_tup, lenC_scr, Int.cast_ofNat_Int, Int.natCast_zero, Int.natCast_one,   ↓reduceIte, Nat.reduceAdd, Nat.reduceSub, Nat.reduceMul, Nat.reduceLT, Nat.reduceLeDiff, Nat.reduceBEq, Nat.reduceBneDiff, Nat.reduceEqDiff, Nat.reducePow, Int.reduceLT, Int.reduceLE, Int.reduceEq, Int.reduceNe, Int.reduceAdd, Int.reduceSub, Int.reduceMul, Int.reduceNeg, Int.reducePow, Int.reduceToNat, decide_true, decide_false, decide_eq_true_eq, Bool.false_eq_true, List.contains_nil, List.contains_cons, Bool.or_false, Bool.or_self, eq_self, and_self, and_true, true_and]⟩⟩
        · simp only [seqS_eq, nxS, bkS, ctS, nxt_nx, nxt_rt, nxt_bk, nxt_ct, ifS_eq, ifE_eq, brR_t, brR_f, brR_dec, anT_eq, orT_eq, anE_eq, orE_eq, tst_eq, isB_bl, ↓R.bind_bd, R.bd_ok, R.of_some, noT, blE, vr, cst, op1, op2, setS, setR, nxO, asgS, tupG, cnsG, nilG, nmG, subGO, subG, subS, getM, ixM, putO, cnsA, nilA, dTup, dLst, frz, retS, retM, setM, exS, mutS, appO, opC, callE, callM, callG_eq, cnsB, nilB, slB, kwB, ioM, toArgs, okA, slsA, nodN, argG_some, goG_ok, asE, asM, putA, newM, putM, parS, par3S, frzS, frzAt, bindO, endR_rt, endR_nx, endG, FL.collect, bodyG_eq, rho0, toS, wipeR, FL.pick, tru, truD, chn, lenM, isiD, typD, isTy,   List.getElem?_cons_zero, List.getElem?_cons_succ, List.getElem?_nil, List.set_cons_zero, List.set_cons_succ, List.set_nil, List.length_cons, List.length_nil, List.mapIdx_cons, List.mapIdx_nil, List.map_cons, List.map_nil, List.replicate_succ, List.replicate_zero, List.cons_append, List.nil_append, List.append_nil, List.foldl_cons, List.foldl_nil, List.filterMap_cons, List.filterMap_nil, Option.map_some, Option.map_none, Option.bind_some, Option.bind_none, Bool.not_true, Bool.not_false, Bool.and_true, Bool.true_and, Bool.or_true, Bool.and_self, if_true, if_false,   eqA_int, neA_int, eqA_str, neA_str, ltD_int, leD_int, gtD_int, geD_int, addD_int, subD_int, negD_int, absC_int, intC_int, maxC_int, minC_int, lenC_lst, lenC_tup, lenC_scr, Int.cast_ofNat_Int, Int.natCast_zero, Int.natCast_one,   ↓reduceIte, Nat.reduceAdd, Nat.reduceSub, Nat.reduceMul, Nat.reduceLT, Nat.reduceLeDiff, Nat.reduceBEq, Nat.reduceBneDiff, Nat.reduceEqDiff, Nat.reducePow, Int.reduceLT, Int.reduceLE, Int.reduceEq, Int.reduceNe, Int.reduceAdd, Int.reduceSub, Int.reduceMul, Int.reduceNeg, Int.reducePow, Int.reduceToNat, decide_true, decide_false, decide_eq_true_eq, Bool.false_eq_true, List.contains_nil, List.contains_cons, Bool.or_false, Bool.or_self, eq_self, and_self, and_true, true_and, a0, g, ei, copB]
        · simp only [seqS_eq, nxS, bkS, ctS, nxt_nx, nxt_rt, nxt_bk, nxt_ct, ifS_eq, ifE_eq, brR_t, brR_f, brR_dec, anT_eq, orT_eq, anE_eq, orE_eq, tst_eq, isB_bl, ↓R.bind_bd, R.bd_ok, R.of_some, noT, blE, vr, cst, op1, op2, setS, setR, nxO, asgS, tupG, cnsG, nilG, nmG, subGO, subG, subS, getM, ixM, putO, cnsA, nilA, dTup, dLst, frz, retS, retM, setM, exS, mutS, appO, opC, callE, callM, callG_eq, cnsB, nilB, slB, kwB, ioM, toArgs, okA, slsA, nodN, argG_some, goG_ok, asE, asM, putA, newM, putM, parS, par3S, frzS, frzAt, bindO, endR_rt, endR_nx, endG, FL.collect, bodyG_eq, rho0, toS, wipeR, FL.pick, tru, truD, chn, lenM, isiD, typD, isTy,   List.getElem?_cons_zero, List.getElem?_cons_succ, List.getElem?_nil, List.set_cons_zero, List.set_cons_succ, List.set_nil, List.length_cons, List.length_nil, List.mapIdx_cons, List.mapIdx_nil, List.map_cons, List.map_nil, List.replicate_succ, List.replicate_zero, List.cons_append, List.nil_append, List.append_nil, List.foldl_cons, List.foldl_nil, List.filterMap_cons, List.filterMap_nil, Option.map_some, Option.map_none, Option.bind_some, Option.bind_none, Bool.not_true, Bool.not_false, Bool.and_true, Bool.true_and, Bool.or_true, Bool.and_self, if_true, if_false,   eqA_int, neA_int, eqA_str, neA_str, ltD_int, leD_int, gtD_int, geD_int, addD_int, subD_int, negD_int, absC_int, intC_int, maxC_int, minC_int, lenC_lst, lenC_tup, lenC_scr, Int.cast_ofNat_Int, Int.natCast_zero, Int.natCast_one,   ↓reduceIte, Nat.reduceAdd, Nat.reduceSub, Nat.reduceMul, Nat.reduceLT, Nat.reduceLeDiff, Nat.reduceBEq, Nat.reduceBneDiff, Nat.reduceEqDiff, Nat.reducePow, Int.reduceLT, Int.reduceLE, Int.reduceEq, Int.reduceNe, Int.reduceAdd, Int.reduceSub, Int.reduceMul, Int.reduceNeg, Int.reducePow, Int.reduceToNat, decide_true, decide_false, decide_eq_true_eq, Bool.false_eq_true, List.contains_nil, List.contains_cons, Bool.or_false, Bool.or_self, eq_self, and_self, and_true, true_and, a0, small])
    obtain ⟨ne, al⟩ := coprimes_of pl
    obtain ⟨d, s3, hm, e4, h3⟩ := any_ok hs ne (by rw [List.length_map]; refine Nat.le_trans (List.length_filter_le _ _) ?_; rw [rangeL_length]; omega) (by omega)
    obtain ⟨q', rfl, q0, q1, hg⟩ := al d hm
    refine ⟨q', s3, ?_, .inr (.inr ⟨pl, pm, q0, q1, hg⟩), h3⟩
    rw [List.nil_append] at e3
    simp only [G__law_mate, g__law_mate, seqS_eq, nxS, bkS, ctS, nxt_nx, nxt_rt, nxt_bk, nxt_ct, ifS_eq, ifE_eq, brR_t, brR_f, brR_dec, anT_eq, orT_eq, anE_eq, orE_eq, tst_eq, isB_bl, ↓R.bind_bd, R.bd_ok, R.of_some, noT, blE, vr, cst, op1, op2, setS, setR, nxO, asgS, tupG, cnsG, nilG, nmG, subGO, subG, subS, getM, ixM, putO, cnsA, nilA, dTup, dLst, frz, retS, retM, setM, exS, mutS, appO, opC, callE, callM, callG_eq, cnsB, nilB, slB, kwB, ioM, toArgs, okA, slsA, nodN, argG_some, goG_ok, asE, asM, putA, newM, putM, parS, par3S, frzS, frzAt, bindO, endR_rt, endR_nx, endG, FL.collect, bodyG_eq, rho0, toS, wipeR, FL.pick, tru, truD, chn, lenM, isiD, typD, isTy,   List.getElem?_cons_zero, List.getElem?_cons_succ, List.getElem?_nil, List.set_cons_zero, List.set_cons_succ, List.set_nil, List.length_cons, List.length_nil, List.mapIdx_cons, List.mapIdx_nil, List.map_cons, List.map_nil, List.replicate_succ, List.replicate_zero, List.cons_append, List.nil_append, List.append_nil, List.foldl_cons, List.foldl_nil, List.filterMap_cons, List.filterMap_nil, Option.map_some, Option.map_none, Option.bind_some, Option.bind_none, Bool.not_true, Bool.not_false, Bool.and_true, Bool.true_and, Bool.or_true, Bool.and_self, if_true, if_false,   eqA_int, neA_int, eqA_str, neA_str, ltD_int, leD_int, gtD_int, geD_int, addD_int, subD_int, negD_int, absC_int, intC_int, maxC_int, minC_int, lenC_lst, lenC_tup, lenC_scr, Int.cast_ofNat_Int, Int.natCast_zero, Int.natCast_one,   ↓reduceIte, Nat.reduceAdd, Nat.reduceSub, Nat.reduceMul, Nat.reduceLT, Nat.reduceLeDiff, Nat.reduceBEq, Nat.reduceBneDiff, Nat.reduceEqDiff, Nat.reducePow, Int.reduceLT, Int.reduceLE, Int.reduceEq, Int.reduceNe, Int.reduceAdd, Int.reduceSub, Int.reduceMul, Int.reduceNeg, Int.reducePow, Int.reduceToNat, decide_true, decide_false, decide_eq_true_eq, Bool.false_eq_true, List.contains_nil, List.contains_cons, Bool.or_false, Bool.or_self, eq_self, and_self, and_true, true_and, a0, hp, cmpM, r, e3, resR, e4]

/-- the values of any kind that the law takes for papers -/
def oddL : List D := [.non, .bl true, .bl false, .int 0, .int 2, .int (-2), .str "", .str "1", .tup [], .tup [.int 1], .lst [.int 1], .dct [], .tup [.int 1, .int 1], .int 1000000000000000000000000000000, .tup [.tup [.int 1, .int 1]], .tup [.int (-1)], .str "led"]
theorem odd_ok {n : Nat} {s : M} (hs : Sp n s) (hn : n ≤ 1000000000) : ∃ (d : D) (s' : M), d ∈ oddL ∧ G__law_odd [.io s] = .ok (.v d) [s'] ∧ Sp (n + 1) s' := by
  obtain ⟨d, s', hd, e, h⟩ := any_ok hs (xs := oddL) (by simp [oddL]) (by simp [oddL]) hn
  have pw : powD (.int 10) (.int 30) = some (.int 1000000000000000000000000000000) := rfl
  unfold oddL at e
  exact ⟨d, s', hd, by simp only [G__law_odd, g__law_odd, seqS_eq, nxS, bkS, ctS, nxt_nx, nxt_rt, nxt_bk, nxt_ct, ifS_eq, ifE_eq, brR_t, brR_f, brR_dec, anT_eq, orT_eq, anE_eq, orE_eq, tst_eq, isB_bl, ↓R.bind_bd, R.bd_ok, R.of_some, noT, blE, vr, cst, op1, op2, setS, setR, nxO, asgS, tupG, cnsG, nilG, nmG, subGO, subG, subS, getM, ixM, putO, cnsA, nilA, dTup, dLst, frz, retS, retM, setM, exS, mutS, appO, opC, callE, callM, callG_eq, cnsB, nilB, slB, kwB, ioM, toArgs, okA, slsA, nodN, argG_some, goG_ok, asE, asM, putA, newM, putM, parS, par3S, frzS, frzAt, bindO, endR_rt, endR_nx, endG, FL.collect, bodyG_eq, rho0, toS, wipeR, FL.pick, tru, truD, chn, lenM, isiD, typD, isTy,   List.getElem?_cons_zero, List.getElem?_cons_succ, List.getElem?_nil, List.set_cons_zero, List.set_cons_succ, List.set_nil, List.length_cons, List.length_nil, List.mapIdx_cons, List.mapIdx_nil, List.map_cons, List.map_nil, List.replicate_succ, List.replicate_zero, List.cons_append, List.nil_append, List.append_nil, List.foldl_cons, List.foldl_nil, List.filterMap_cons, List.filterMap_nil, Option.map_some, Option.map_none, Option.bind_some, Option.bind_none, Bool.not_true, Bool.not_false, Bool.and_true, Bool.true_and, Bool.or_true, Bool.and_self, if_true, if_false,   eqA_int, neA_int, eqA_str, neA_str, ltD_int, leD_int, gtD_int, geD_int, addD_int, subD_int, negD_int, absC_int, intC_int, maxC_int, minC_int, lenC_lst, lenC_tup, lenC_scr, Int.cast_ofNat_Int, Int.natCast_zero, Int.natCast_one,   ↓reduceIte, Nat.reduceAdd, Nat.reduceSub, Nat.reduceMul, Nat.reduceLT, Nat.reduceLeDiff, Nat.reduceBEq, Nat.reduceBneDiff, Nat.reduceEqDiff, Nat.reducePow, Int.reduceLT, Int.reduceLE, Int.reduceEq, Int.reduceNe, Int.reduceAdd, Int.reduceSub, Int.reduceMul, Int.reduceNeg, Int.reducePow, Int.reduceToNat, decide_true, decide_false, decide_eq_true_eq, Bool.false_eq_true, List.contains_nil, List.contains_cons, Bool.or_false, Bool.or_self, eq_self, and_self, and_true, true_and, small, pw, e], h⟩
theorem ninA_str {x : Str} (h : PyData.strOk x = true) : ninA (.str x) (.lst [.int 1, .int (-1)]) = some (.bl true) := by
  have e : inD (.str x) (.lst [.int 1, .int (-1)]) = some (.bl false) := if_pos ⟨h, rfl⟩
  show (match inD (.str x) (.lst [.int 1, .int (-1)]) with | some (.bl b) => some (D.bl (!b)) | _ => none) = _
  rw [e]
  rfl
theorem odd_ty {x : D} (h : x ∈ oddL) : (typD x).isSome = true := by
  simp only [oddL, List.mem_cons, List.not_mem_nil, or_false] at h
  rcases h with rfl | rfl | rfl | rfl | rfl | rfl | rfl | rfl | rfl | rfl | rfl | rfl | rfl | rfl | rfl | rfl | rfl <;> rfl

def signB : D → Bool
  | .int i => decide (i = 1) || decide (i = -1)
  | _ => false
theorem is_sign_int (i : Int) : G_is_sign [.val (.int i)] = .ok (.v (.bl (decide (i = 1) || decide (i = -1)))) [] := by
  simp only [G_is_sign, g_is_sign, seqS_eq, nxS, bkS, ctS, nxt_nx, nxt_rt, nxt_bk, nxt_ct, ifS_eq, ifE_eq, brR_t, brR_f, brR_dec, anT_eq, orT_eq, anE_eq, orE_eq, tst_eq, isB_bl, ↓R.bind_bd, R.bd_ok, R.of_some, noT, blE, vr, cst, op1, op2, setS, setR, nxO, asgS, tupG, cnsG, nilG, nmG, subGO, subG, subS, getM, ixM, putO, cnsA, nilA, dTup, dLst, frz, retS, retM, setM, exS, mutS, appO, opC, callE, callM, callG_eq, cnsB, nilB, slB, kwB, ioM, toArgs, okA, slsA, nodN, argG_some, goG_ok, asE, asM, putA, newM, putM, parS, par3S, frzS, frzAt, bindO, endR_rt, endR_nx, endG, FL.collect, bodyG_eq, rho0, toS, wipeR, FL.pick, tru, truD, chn, lenM, isiD, typD, isTy,   List.getElem?_cons_zero, List.getElem?_cons_succ, List.getElem?_nil, List.set_cons_zero, List.set_cons_succ, List.set_nil, List.length_cons, List.length_nil, List.mapIdx_cons, List.mapIdx_nil, List.map_cons, List.map_nil, List.replicate_succ, List.replicate_zero, List.cons_append, List.nil_append, List.append_nil, List.foldl_cons, List.foldl_nil, List.filterMap_cons, List.filterMap_nil, Option.map_some, Option.map_none, Option.bind_some, Option.bind_none, Bool.not_true, Bool.not_false, Bool.and_true, Bool.true_and, Bool.or_true, Bool.and_self, if_true, if_false,   eqA_int, neA_int, eqA_str, neA_str, ltD_int, leD_int, gtD_int, geD_int, addD_int, subD_int, negD_int, absC_int, intC_int, maxC_int, minC_int, lenC_lst, lenC_tup, lenC_scr, Int.cast_ofNat_Int, Int.natCast_zero, Int.natCast_one,   ↓reduceIte, Nat.reduceAdd, Nat.reduceSub, Nat.reduceMul, Nat.reduceLT, Nat.reduceLeDiff, Nat.reduceBEq, Nat.reduceBneDiff, Nat.reduceEqDiff, Nat.reducePow, Int.reduceLT, Int.reduceLE, Int.reduceEq, Int.reduceNe, Int.reduceAdd, Int.reduceSub, Int.reduceMul, Int.reduceNeg, Int.reducePow, Int.reduceToNat, decide_true, decide_false, decide_eq_true_eq, Bool.false_eq_true, List.contains_nil, List.contains_cons, Bool.or_false, Bool.or_self, eq_self, and_self, and_true, true_and, is_integer_int, inA_int2, small]
theorem is_sign_ok {d : D} (h : (typD d).isSome = true) : G_is_sign [.val d] = .ok (.v (.bl (signB d))) [] := by
  by_cases z : isInt d = true
  · obtain ⟨i, rfl⟩ := isInt_of z
    exact is_sign_int i
  · have z : isInt d = false := by simpa using z
    have e : signB d = false := by cases d <;> first | rfl | cases z
    rw [e]
    simp only [G_is_sign, g_is_sign, seqS_eq, nxS, bkS, ctS, nxt_nx, nxt_rt, nxt_bk, nxt_ct, ifS_eq, ifE_eq, brR_t, brR_f, brR_dec, anT_eq, orT_eq, anE_eq, orE_eq, tst_eq, isB_bl, ↓R.bind_bd, R.bd_ok, R.of_some, noT, blE, vr, cst, op1, op2, setS, setR, nxO, asgS, tupG, cnsG, nilG, nmG, subGO, subG, subS, getM, ixM, putO, cnsA, nilA, dTup, dLst, frz, retS, retM, setM, exS, mutS, appO, opC, callE, callM, callG_eq, cnsB, nilB, slB, kwB, ioM, toArgs, okA, slsA, nodN, argG_some, goG_ok, asE, asM, putA, newM, putM, parS, par3S, frzS, frzAt, bindO, endR_rt, endR_nx, endG, FL.collect, bodyG_eq, rho0, toS, wipeR, FL.pick, tru, truD, chn, lenM, isiD, typD, isTy,   List.getElem?_cons_zero, List.getElem?_cons_succ, List.getElem?_nil, List.set_cons_zero, List.set_cons_succ, List.set_nil, List.length_cons, List.length_nil, List.mapIdx_cons, List.mapIdx_nil, List.map_cons, List.map_nil, List.replicate_succ, List.replicate_zero, List.cons_append, List.nil_append, List.append_nil, List.foldl_cons, List.foldl_nil, List.filterMap_cons, List.filterMap_nil, Option.map_some, Option.map_none, Option.bind_some, Option.bind_none, Bool.not_true, Bool.not_false, Bool.and_true, Bool.true_and, Bool.or_true, Bool.and_self, if_true, if_false,   eqA_int, neA_int, eqA_str, neA_str, ltD_int, leD_int, gtD_int, geD_int, addD_int, subD_int, negD_int, absC_int, intC_int, maxC_int, minC_int, lenC_lst, lenC_tup, lenC_scr, Int.cast_ofNat_Int, Int.natCast_zero, Int.natCast_one,   ↓reduceIte, Nat.reduceAdd, Nat.reduceSub, Nat.reduceMul, Nat.reduceLT, Nat.reduceLeDiff, Nat.reduceBEq, Nat.reduceBneDiff, Nat.reduceEqDiff, Nat.reducePow, Int.reduceLT, Int.reduceLE, Int.reduceEq, Int.reduceNe, Int.reduceAdd, Int.reduceSub, Int.reduceMul, Int.reduceNeg, Int.reducePow, Int.reduceToNat, decide_true, decide_false, decide_eq_true_eq, Bool.false_eq_true, List.contains_nil, List.contains_cons, Bool.or_false, Bool.or_self, eq_self, and_self, and_true, true_and, is_integer_ok h, z]

theorem are_same_size_ok (p q p' q' : Int) : G_are_same_size [.val (D2 p q), .val (D2 p' q')] = .ok (.v (.bl (pairB p q && (pairB p' q' && decide (p = p'))))) [] := by
  have a0 : ∀ p q : Int, ixD (D2 p q) (.int 0) = some (.int p) := fun _ _ => rfl
  cases h1 : pairB p q with
  | false => simp only [G_are_same_size, g_are_same_size, seqS_eq, nxS, bkS, ctS, nxt_nx, nxt_rt, nxt_bk, nxt_ct, ifS_eq, ifE_eq, brR_t, brR_f, brR_dec, anT_eq, orT_eq, anE_eq, orE_eq, tst_eq, isB_bl, ↓R.bind_bd, R.bd_ok, R.of_some, noT, blE, vr, cst, op1, op2, setS, setR, nxO, asgS, tupG, cnsG, nilG, nmG, subGO, subG, subS, getM, ixM, putO, cnsA, nilA, dTup, dLst, frz, retS, retM, setM, exS, mutS, appO, opC, callE, callM, callG_eq, cnsB, nilB, slB, kwB, ioM, toArgs, okA, slsA, nodN, argG_some, goG_ok, asE, asM, putA, newM, putM, parS, par3S, frzS, frzAt, bindO, endR_rt, endR_nx, endG, FL.collect, bodyG_eq, rho0, toS, wipeR, FL.pick, tru, truD, chn, lenM, isiD, typD, isTy,   List.getElem?_cons_zero, List.getElem?_cons_succ, List.getElem?_nil, List.set_cons_zero, List.set_cons_succ, List.set_nil, List.length_cons, List.length_nil, List.mapIdx_cons, List.mapIdx_nil, List.map_cons, List.map_nil, List.replicate_succ, List.replicate_zero, List.cons_append, List.nil_append, List.append_nil, List.foldl_cons, List.foldl_nil, List.filterMap_cons, List.filterMap_nil, Option.map_some, Option.map_none, Option.bind_some, Option.bind_none, Bool.not_true, Bool.not_false, Bool.and_true, Bool.true_and, Bool.or_true, Bool.and_self, if_true, if_false,   eqA_int, neA_int, eqA_str, neA_str, ltD_int, leD_int, gtD_int, geD_int, addD_int, subD_int, negD_int, absC_int, intC_int, maxC_int, minC_int, lenC_lst, lenC_tup, lenC_scr, Int.cast_ofNat_Int, Int.natCast_zero, Int.natCast_one,   ↓reduceIte, Nat.reduceAdd, Nat.reduceSub, Nat.reduceMul, Nat.reduceLT, Nat.reduceLeDiff, Nat.reduceBEq, Nat.reduceBneDiff, Nat.reduceEqDiff, Nat.reducePow, Int.reduceLT, Int.reduceLE, Int.reduceEq, Int.reduceNe, Int.reduceAdd, Int.reduceSub, Int.reduceMul, Int.reduceNeg, Int.reducePow, Int.reduceToNat, decide_true, decide_false, decide_eq_true_eq, Bool.false_eq_true, List.contains_nil, List.contains_cons, Bool.or_false, Bool.or_self, eq_self, and_self, and_true, true_and, is_pair_ok, h1, Bool.false_and]
  | true =>
    cases h2 : pairB p' q' with
    | false => simp only [G_are_same_size, g_are_same_size, seqS_eq, nxS, bkS, ctS, nxt_nx, nxt_rt, nxt_bk, nxt_ct, ifS_eq, ifE_eq, brR_t, brR_f, brR_dec, anT_eq, orT_eq, anE_eq, orE_eq, tst_eq, isB_bl, ↓R.bind_bd, R.bd_ok, R.of_some, noT, blE, vr, cst, op1, op2, setS, setR, nxO, asgS, tupG, cnsG, nilG, nmG, subGO, subG, subS, getM, ixM, putO, cnsA, nilA, dTup, dLst, frz, retS, retM, setM, exS, mutS, appO, opC, callE, callM, callG_eq, cnsB, nilB, slB, kwB, ioM, toArgs, okA, slsA, nodN, argG_some, goG_ok, asE, asM, putA, newM, putM, parS, par3S, frzS, frzAt, bindO, endR_rt, endR_nx, endG, FL.collect, bodyG_eq, rho0, toS, wipeR, FL.pick, tru, truD, chn, lenM, isiD, typD, isTy,   List.getElem?_cons_zero, List.getElem?_cons_succ, List.getElem?_nil, List.set_cons_zero, List.set_cons_succ, List.set_nil, List.length_cons, List.length_nil, List.mapIdx_cons, List.mapIdx_nil, List.map_cons, List.map_nil, List.replicate_succ, List.replicate_zero, List.cons_append, List.nil_append, List.append_nil, List.foldl_cons, List.foldl_nil, List.filterMap_cons, List.filterMap_nil, Option.map_some, Option.map_none, Option.bind_some, Option.bind_none, Bool.not_true, Bool.not_false, Bool.and_true, Bool.true_and, Bool.or_true, Bool.and_self, if_true, if_false,   eqA_int, neA_int, eqA_str, neA_str, ltD_int, leD_int, gtD_int, geD_int, addD_int, subD_int, negD_int, absC_int, intC_int, maxC_int, minC_int, lenC_lst, lenC_tup, lenC_scr, Int.cast_ofNat_Int, Int.natCast_zero, Int.natCast_one,   ↓reduceIte, Nat.reduceAdd, Nat.reduceSub, Nat.reduceMul, Nat.reduceLT, Nat.reduceLeDiff, Nat.reduceBEq, Nat.reduceBneDiff, Nat.reduceEqDiff, Nat.reducePow, Int.reduceLT, Int.reduceLE, Int.reduceEq, Int.reduceNe, Int.reduceAdd, Int.reduceSub, Int.reduceMul, Int.reduceNeg, Int.reducePow, Int.reduceToNat, decide_true, decide_false, decide_eq_true_eq, Bool.false_eq_true, List.contains_nil, List.contains_cons, Bool.or_false, Bool.or_self, eq_self, and_self, and_true, true_and, is_pair_ok, h1, h2, Bool.false_and]
    | true => simp only [G_are_same_size, g_are_same_size, seqS_eq, nxS, bkS, ctS, nxt_nx, nxt_rt, nxt_bk, nxt_ct, ifS_eq, ifE_eq, brR_t, brR_f, brR_dec, anT_eq, orT_eq, anE_eq, orE_eq, tst_eq, isB_bl, ↓R.bind_bd, R.bd_ok, R.of_some, noT, blE, vr, cst, op1, op2, setS, setR, nxO, asgS, tupG, cnsG, nilG, nmG, subGO, subG, subS, getM, ixM, putO, cnsA, nilA, dTup, dLst, frz, retS, retM, setM, exS, mutS, appO, opC, callE, callM, callG_eq, cnsB, nilB, slB, kwB, ioM, toArgs, okA, slsA, nodN, argG_some, goG_ok, asE, asM, putA, newM, putM, parS, par3S, frzS, frzAt, bindO, endR_rt, endR_nx, endG, FL.collect, bodyG_eq, rho0, toS, wipeR, FL.pick, tru, truD, chn, lenM, isiD, typD, isTy,   List.getElem?_cons_zero, List.getElem?_cons_succ, List.getElem?_nil, List.set_cons_zero, List.set_cons_succ, List.set_nil, List.length_cons, List.length_nil, List.mapIdx_cons, List.mapIdx_nil, List.map_cons, List.map_nil, List.replicate_succ, List.replicate_zero, List.cons_append, List.nil_append, List.append_nil, List.foldl_cons, List.foldl_nil, List.filterMap_cons, List.filterMap_nil, Option.map_some, Option.map_none, Option.bind_some, Option.bind_none, Bool.not_true, Bool.not_false, Bool.and_true, Bool.true_and, Bool.or_true, Bool.and_self, if_true, if_false,   eqA_int, neA_int, eqA_str, neA_str, ltD_int, leD_int, gtD_int, geD_int, addD_int, subD_int, negD_int, absC_int, intC_int, maxC_int, minC_int, lenC_lst, lenC_tup, lenC_scr, Int.cast_ofNat_Int, Int.natCast_zero, Int.natCast_one,   ↓reduceIte, Nat.reduceAdd, Nat.reduceSub, Nat.reduceMul, Nat.reduceLT, Nat.reduceLeDiff, Nat.reduceBEq, Nat.reduceBneDiff, Nat.reduceEqDiff, Nat.reducePow, Int.reduceLT, Int.reduceLE, Int.reduceEq, Int.reduceNe, Int.reduceAdd, Int.reduceSub, Int.reduceMul, Int.reduceNeg, Int.reducePow, Int.reduceToNat, decide_true, decide_false, decide_eq_true_eq, Bool.false_eq_true, List.contains_nil, List.contains_cons, Bool.or_false, Bool.or_self, eq_self, and_self, and_true, true_and, is_pair_ok, h1, h2, a0]

theorem shows_alike_no {p q p' q' : Int} {x : D} (h : (typD x).isSome = true) (hs : signB x = false) : G_shows_alike [.val (D2 p q), .val (D2 p' q'), .val x] = .ok (.v (.bl false)) [] := by
  have a0 : ixD (D2 p q) (.int 0) = some (.int p) := rfl
  simp only [G_shows_alike, g_shows_alike, seqS_eq, nxS, bkS, ctS, nxt_nx, nxt_rt, nxt_bk, nxt_ct, ifS_eq, ifE_eq, brR_t, brR_f, brR_dec, anT_eq, orT_eq, anE_eq, orE_eq, tst_eq, isB_bl, ↓R.bind_bd, R.bd_ok, R.of_some, noT, blE, vr, cst, op1, op2, setS, setR, nxO, asgS, tupG, cnsG, nilG, nmG, subGO, subG, subS, getM, ixM, putO, cnsA, nilA, dTup, dLst, frz, retS, retM, setM, exS, mutS, appO, opC, callE, callM, callG_eq, cnsB, nilB, slB, kwB, ioM, toArgs, okA, slsA, nodN, argG_some, goG_ok, asE, asM, putA, newM, putM, parS, par3S, frzS, frzAt, bindO, endR_rt, endR_nx, endG, FL.collect, bodyG_eq, rho0, toS, wipeR, FL.pick, tru, truD, chn, lenM, isiD, typD, isTy,   List.getElem?_cons_zero, List.getElem?_cons_succ, List.getElem?_nil, List.set_cons_zero, List.set_cons_succ, List.set_nil, List.length_cons, List.length_nil, List.mapIdx_cons, List.mapIdx_nil, List.map_cons, List.map_nil, List.replicate_succ, List.replicate_zero, List.cons_append, List.nil_append, List.append_nil, List.foldl_cons, List.foldl_nil, List.filterMap_cons, List.filterMap_nil, Option.map_some, Option.map_none, Option.bind_some, Option.bind_none, Bool.not_true, Bool.not_false, Bool.and_true, Bool.true_and, Bool.or_true, Bool.and_self, if_true, if_false,   eqA_int, neA_int, eqA_str, neA_str, ltD_int, leD_int, gtD_int, geD_int, addD_int, subD_int, negD_int, absC_int, intC_int, maxC_int, minC_int, lenC_lst, lenC_tup, lenC_scr, Int.cast_ofNat_Int, Int.natCast_zero, Int.natCast_one,   ↓reduceIte, Nat.reduceAdd, Nat.reduceSub, Nat.reduceMul, Nat.reduceLT, Nat.reduceLeDiff, Nat.reduceBEq, Nat.reduceBneDiff, Nat.reduceEqDiff, Nat.reducePow, Int.reduceLT, Int.reduceLE, Int.reduceEq, Int.reduceNe, Int.reduceAdd, Int.reduceSub, Int.reduceMul, Int.reduceNeg, Int.reducePow, Int.reduceToNat, decide_true, decide_false, decide_eq_true_eq, Bool.false_eq_true, List.contains_nil, List.contains_cons, Bool.or_false, Bool.or_self, eq_self, and_self, and_true, true_and, a0, is_sign_ok h, hs]
theorem shows_alike_one {p q p' q' i : Int} (hi : i = 1 ∨ i = -1) (hp : p < 2) : G_shows_alike [.val (D2 p q), .val (D2 p' q'), .val (.int i)] = .ok (.v (.bl (decide (i = 1) && (decide (p = p') && decide (q = q'))))) [] := by
  have a0 : ixD (D2 p q) (.int 0) = some (.int p) := rfl
  have hs : (decide (i = 1) || decide (i = -1)) = true := by rcases hi with rfl | rfl <;> rfl
  by_cases h1 : i = 1
  · subst h1
    simp only [G_shows_alike, g_shows_alike, seqS_eq, nxS, bkS, ctS, nxt_nx, nxt_rt, nxt_bk, nxt_ct, ifS_eq, ifE_eq, brR_t, brR_f, brR_dec, anT_eq, orT_eq, anE_eq, orE_eq, tst_eq, isB_bl, ↓R.bind_bd, R.bd_ok, R.of_some, noT, blE, vr, cst, op1, op2, setS, setR, nxO, asgS, tupG, cnsG, nilG, nmG, subGO, subG, subS, getM, ixM, putO, cnsA, nilA, dTup, dLst, frz, retS, retM, setM, exS, mutS, appO, opC, callE, callM, callG_eq, cnsB, nilB, slB, kwB, ioM, toArgs, okA, slsA, nodN, argG_some, goG_ok, asE, asM, putA, newM, putM, parS, par3S, frzS, frzAt, bindO, endR_rt, endR_nx, endG, FL.collect, bodyG_eq, rho0, toS, wipeR, FL.pick, tru, truD, chn, lenM, isiD, typD, isTy,   List.getElem?_cons_zero, List.getElem?_cons_succ, List.getElem?_nil, List.set_cons_zero, List.set_cons_succ, List.set_nil, List.length_cons, List.length_nil, List.mapIdx_cons, List.mapIdx_nil, List.map_cons, List.map_nil, List.replicate_succ, List.replicate_zero, List.cons_append, List.nil_append, List.append_nil, List.foldl_cons, List.foldl_nil, List.filterMap_cons, List.filterMap_nil, Option.map_some, Option.map_none, Option.bind_some, Option.bind_none, Bool.not_true, Bool.not_false, Bool.and_true, Bool.true_and, Bool.or_true, Bool.and_self, if_true, if_false,   eqA_int, neA_int, eqA_str, neA_str, ltD_int, leD_int, gtD_int, geD_int, addD_int, subD_int, negD_int, absC_int, intC_int, maxC_int, minC_int, lenC_lst, lenC_tup, lenC_scr, Int.cast_ofNat_Int, Int.natCast_zero, Int.natCast_one,   ↓reduceIte, Nat.reduceAdd, Nat.reduceSub, Nat.reduceMul, Nat.reduceLT, Nat.reduceLeDiff, Nat.reduceBEq, Nat.reduceBneDiff, Nat.reduceEqDiff, Nat.reducePow, Int.reduceLT, Int.reduceLE, Int.reduceEq, Int.reduceNe, Int.reduceAdd, Int.reduceSub, Int.reduceMul, Int.reduceNeg, Int.reducePow, Int.reduceToNat, decide_true, decide_false, decide_eq_true_eq, Bool.false_eq_true, List.contains_nil, List.contains_cons, Bool.or_false, Bool.or_self, eq_self, and_self, and_true, true_and, a0, is_sign_int, hs, hp, eqA_D2]
  · have h2 := hi.resolve_left h1
    subst h2
    simp only [G_shows_alike, g_shows_alike, seqS_eq, nxS, bkS, ctS, nxt_nx, nxt_rt, nxt_bk, nxt_ct, ifS_eq, ifE_eq, brR_t, brR_f, brR_dec, anT_eq, orT_eq, anE_eq, orE_eq, tst_eq, isB_bl, ↓R.bind_bd, R.bd_ok, R.of_some, noT, blE, vr, cst, op1, op2, setS, setR, nxO, asgS, tupG, cnsG, nilG, nmG, subGO, subG, subS, getM, ixM, putO, cnsA, nilA, dTup, dLst, frz, retS, retM, setM, exS, mutS, appO, opC, callE, callM, callG_eq, cnsB, nilB, slB, kwB, ioM, toArgs, okA, slsA, nodN, argG_some, goG_ok, asE, asM, putA, newM, putM, parS, par3S, frzS, frzAt, bindO, endR_rt, endR_nx, endG, FL.collect, bodyG_eq, rho0, toS, wipeR, FL.pick, tru, truD, chn, lenM, isiD, typD, isTy,   List.getElem?_cons_zero, List.getElem?_cons_succ, List.getElem?_nil, List.set_cons_zero, List.set_cons_succ, List.set_nil, List.length_cons, List.length_nil, List.mapIdx_cons, List.mapIdx_nil, List.map_cons, List.map_nil, List.replicate_succ, List.replicate_zero, List.cons_append, List.nil_append, List.append_nil, List.foldl_cons, List.foldl_nil, List.filterMap_cons, List.filterMap_nil, Option.map_some, Option.map_none, Option.bind_some, Option.bind_none, Bool.not_true, Bool.not_false, Bool.and_true, Bool.true_and, Bool.or_true, Bool.and_self, if_true, if_false,   eqA_int, neA_int, eqA_str, neA_str, ltD_int, leD_int, gtD_int, geD_int, addD_int, subD_int, negD_int, absC_int, intC_int, maxC_int, minC_int, lenC_lst, lenC_tup, lenC_scr, Int.cast_ofNat_Int, Int.natCast_zero, Int.natCast_one,   ↓reduceIte, Nat.reduceAdd, Nat.reduceSub, Nat.reduceMul, Nat.reduceLT, Nat.reduceLeDiff, Nat.reduceBEq, Nat.reduceBneDiff, Nat.reduceEqDiff, Nat.reducePow, Int.reduceLT, Int.reduceLE, Int.reduceEq, Int.reduceNe, Int.reduceAdd, Int.reduceSub, Int.reduceMul, Int.reduceNeg, Int.reducePow, Int.reduceToNat, decide_true, decide_false, decide_eq_true_eq, Bool.false_eq_true, List.contains_nil, List.contains_cons, Bool.or_false, Bool.or_self, eq_self, and_self, and_true, true_and, a0, is_sign_int, hs, hp, Bool.false_and]
theorem shows_alike_big {p q p' q' i : Int} (hi : i = 1 ∨ i = -1) (hp : 2 ≤ p) (b1 : q.natAbs < 2 ^ 200) (b2 : q'.natAbs < 2 ^ 200) : G_shows_alike [.val (D2 p q), .val (D2 p' q'), .val (.int i)] = .ok (.v (.bl (decide ((i * q - q') % p = 0) || decide ((q * q' - i) % p = 0)))) [] := by
  have a0 : ∀ p q : Int, ixD (D2 p q) (.int 0) = some (.int p) := fun _ _ => rfl
  have a1 : ∀ p q : Int, ixD (D2 p q) (.int 1) = some (.int q) := fun _ _ => rfl
  have hs : (decide (i = 1) || decide (i = -1)) = true := by rcases hi with rfl | rfl <;> rfl
  have hp' : ¬ p < 2 := by omega
  have m1 : mulD (.int i) (.int q) = some (.int (i * q)) := mulD_l (by omega)
  have m2 : mulD (.int q) (.int q') = some (.int (q * q')) := mulD_w b1 b2
  have f : ∀ x : Int, modD (.int x) (.int p) = some (.int (x % p)) := fun x => modD_pos (by omega)
  by_cases h1 : (i * q - q') % p = 0
  · simp only [G_shows_alike, g_shows_alike, seqS_eq, nxS, bkS, ctS, nxt_nx, nxt_rt, nxt_bk, nxt_ct, ifS_eq, ifE_eq, brR_t, brR_f, brR_dec, anT_eq, orT_eq, anE_eq, orE_eq, tst_eq, isB_bl, ↓R.bind_bd, R.bd_ok, R.of_some, noT, blE, vr, cst, op1, op2, setS, setR, nxO, asgS, tupG, cnsG, nilG, nmG, subGO, subG, subS, getM, ixM, putO, cnsA, nilA, dTup, dLst, frz, retS, retM, setM, exS, mutS, appO, opC, callE, callM, callG_eq, cnsB, nilB, slB, kwB, ioM, toArgs, okA, slsA, nodN, argG_some, goG_ok, asE, asM, putA, newM, putM, parS, par3S, frzS, frzAt, bindO, endR_rt, endR_nx, endG, FL.collect, bodyG_eq, rho0, toS, wipeR, FL.pick, tru, truD, chn, lenM, isiD, typD, isTy,   List.getElem?_cons_zero, List.getElem?_cons_succ, List.getElem?_nil, List.set_cons_zero, List.set_cons_succ, List.set_nil, List.length_cons, List.length_nil, List.mapIdx_cons, List.mapIdx_nil, List.map_cons, List.map_nil, List.replicate_succ, List.replicate_zero, List.cons_append, List.nil_append, List.append_nil, List.foldl_cons, List.foldl_nil, List.filterMap_cons, List.filterMap_nil, Option.map_some, Option.map_none, Option.bind_some, Option.bind_none, Bool.not_true, Bool.not_false, Bool.and_true, Bool.true_and, Bool.or_true, Bool.and_self, if_true, if_false,   eqA_int, neA_int, eqA_str, neA_str, ltD_int, leD_int, gtD_int, geD_int, addD_int, subD_int, negD_int, absC_int, intC_int, maxC_int, minC_int, lenC_lst, lenC_tup, lenC_scr, Int.cast_ofNat_Int, Int.natCast_zero, Int.natCast_one,   ↓reduceIte, Nat.reduceAdd, Nat.reduceSub, Nat.reduceMul, Nat.reduceLT, Nat.reduceLeDiff, Nat.reduceBEq, Nat.reduceBneDiff, Nat.reduceEqDiff, Nat.reducePow, Int.reduceLT, Int.reduceLE, Int.reduceEq, Int.reduceNe, Int.reduceAdd, Int.reduceSub, Int.reduceMul, Int.reduceNeg, Int.reducePow, Int.reduceToNat, decide_true, decide_false, decide_eq_true_eq, Bool.false_eq_true, List.contains_nil, List.contains_cons, Bool.or_false, Bool.or_self, eq_self, and_self, and_true, true_and, a0, a1, is_sign_int, hs, hp', m1, m2, f, h1, Bool.true_or]
  · simp only [G_shows_alike, g_shows_alike, seqS_eq, nxS, bkS, ctS, nxt_nx, nxt_rt, nxt_bk, nxt_ct, ifS_eq, ifE_eq, brR_t, brR_f, brR_dec, anT_eq, orT_eq, anE_eq, orE_eq, tst_eq, isB_bl, ↓R.bind_bd, R.bd_ok, R.of_some, noT, blE, vr, cst, op1, op2, setS, setR, nxO, asgS, tupG, cnsG, nilG, nmG, subGO, subG, subS, getM, ixM, putO, cnsA, nilA, dTup, dLst, frz, retS, retM, setM, exS, mutS, appO, opC, callE, callM, callG_eq, cnsB, nilB, slB, kwB, ioM, toArgs, okA, slsA, nodN, argG_some, goG_ok, asE, asM, putA, newM, putM, parS, par3S, frzS, frzAt, bindO, endR_rt, endR_nx, endG, FL.collect, bodyG_eq, rho0, toS, wipeR, FL.pick, tru, truD, chn, lenM, isiD, typD, isTy,   List.getElem?_cons_zero, List.getElem?_cons_succ, List.getElem?_nil, List.set_cons_zero, List.set_cons_succ, List.set_nil, List.length_cons, List.length_nil, List.mapIdx_cons, List.mapIdx_nil, List.map_cons, List.map_nil, List.replicate_succ, List.replicate_zero, List.cons_append, List.nil_append, List.append_nil, List.foldl_cons, List.foldl_nil, List.filterMap_cons, List.filterMap_nil, Option.map_some, Option.map_none, Option.bind_some, Option.bind_none, Bool.not_true, Bool.not_false, Bool.and_true, Bool.true_and, Bool.or_true, Bool.and_self, if_true, if_false,   eqA_int, neA_int, eqA_str, neA_str, ltD_int, leD_int, gtD_int, geD_int, addD_int, subD_int, negD_int, absC_int, intC_int, maxC_int, minC_int, lenC_lst, lenC_tup, lenC_scr, Int.cast_ofNat_Int, Int.natCast_zero, Int.natCast_one,   ↓reduceIte, Nat.reduceAdd, Nat.reduceSub, Nat.reduceMul, Nat.reduceLT, Nat.reduceLeDiff, Nat.reduceBEq, Nat.reduceBneDiff, Nat.reduceEqDiff, Nat.reducePow, Int.reduceLT, Int.reduceLE, Int.reduceEq, Int.reduceNe, Int.reduceAdd, Int.reduceSub, Int.reduceMul, Int.reduceNeg, Int.reducePow, Int.reduceToNat, decide_true, decide_false, decide_eq_true_eq, Bool.false_eq_true, List.contains_nil, List.contains_cons, Bool.or_false, Bool.or_self, eq_self, and_self, and_true, true_and, a0, a1, is_sign_int, hs, hp', m1, m2, f, h1, Bool.false_or]

theorem is_claim_w {w : Str} (h1 : inA (.str w) (.tup [.str "led", .str "apart"]) = some (.bl false)) (h2 : inA (.str w) (.tup [.str "alike", .str "for loops", .str "not for loops"]) = some (.bl true)) (p q p' q' : Int) :
    G_is_claim [.val (.tup [.str w, D2 p q, D2 p' q'])] = .ok (.v (.bl (pairB p q && (pairB p' q' && decide (p = p'))))) [] := by
  have a0 : ixD (.tup [.str w, D2 p q, D2 p' q']) (.int 0) = some (.str w) := rfl
  have a1 : ixD (.tup [.str w, D2 p q, D2 p' q']) (.int 1) = some (D2 p q) := rfl
  have a2 : ixD (.tup [.str w, D2 p q, D2 p' q']) (.int 2) = some (D2 p' q') := rfl
  simp only [G_is_claim, g_is_claim, seqS_eq, nxS, bkS, ctS, nxt_nx, nxt_rt, nxt_bk, nxt_ct, ifS_eq, ifE_eq, brR_t, brR_f, brR_dec, anT_eq, orT_eq, anE_eq, orE_eq, tst_eq, isB_bl, ↓R.bind_bd, R.bd_ok, R.of_some, noT, blE, vr, cst, op1, op2, setS, setR, nxO, asgS, tupG, cnsG, nilG, nmG, subGO, subG, subS, getM, ixM, putO, cnsA, nilA, dTup, dLst, frz, retS, retM, setM, exS, mutS, appO, opC, callE, callM, callG_eq, cnsB, nilB, slB, kwB, ioM, toArgs, okA, slsA, nodN, argG_some, goG_ok, asE, asM, putA, newM, putM, parS, par3S, frzS, frzAt, bindO, endR_rt, endR_nx, endG, FL.collect, bodyG_eq, rho0, toS, wipeR, FL.pick, tru, truD, chn, lenM, isiD, typD, isTy,   List.getElem?_cons_zero, List.getElem?_cons_succ, List.getElem?_nil, List.set_cons_zero, List.set_cons_succ, List.set_nil, List.length_cons, List.length_nil, List.mapIdx_cons, List.mapIdx_nil, List.map_cons, List.map_nil, List.replicate_succ, List.replicate_zero, List.cons_append, List.nil_append, List.append_nil, List.foldl_cons, List.foldl_nil, List.filterMap_cons, List.filterMap_nil, Option.map_some, Option.map_none, Option.bind_some, Option.bind_none, Bool.not_true, Bool.not_false, Bool.and_true, Bool.true_and, Bool.or_true, Bool.and_self, if_true, if_false,   eqA_int, neA_int, eqA_str, neA_str, ltD_int, leD_int, gtD_int, geD_int, addD_int, subD_int, negD_int, absC_int, intC_int, maxC_int, minC_int, lenC_lst, lenC_tup, lenC_scr, Int.cast_ofNat_Int, Int.natCast_zero, Int.natCast_one,   ↓reduceIte, Nat.reduceAdd, Nat.reduceSub, Nat.reduceMul, Nat.reduceLT, Nat.reduceLeDiff, Nat.reduceBEq, Nat.reduceBneDiff, Nat.reduceEqDiff, Nat.reducePow, Int.reduceLT, Int.reduceLE, Int.reduceEq, Int.reduceNe, Int.reduceAdd, Int.reduceSub, Int.reduceMul, Int.reduceNeg, Int.reducePow, Int.reduceToNat, decide_true, decide_false, decide_eq_true_eq, Bool.false_eq_true, List.contains_nil, List.contains_cons, Bool.or_false, Bool.or_self, eq_self, and_self, and_true, true_and, a0, a1, a2, h1, h2, are_same_size_ok]

theorem is_claim_alike (p q p' q' : Int) : G_is_claim [.val (.tup [.str "alike", D2 p q, D2 p' q'])] = .ok (.v (.bl (pairB p q && (pairB p' q' && decide (p = p'))))) [] := is_claim_w rfl rfl p q p' q'
theorem s_alike : (¬ ("alike" : Str) = "led") ∧ ¬ ("alike" : Str) = "apart" := by decide +kernel
theorem accepts_alike_no {p q p' q' : Int} {x : D} (h : (pairB p q && (pairB p' q' && decide (p = p'))) = false) : G_accepts [.val (.tup [.str "alike", D2 p q, D2 p' q']), .val x] = .ok (.v (.bl false)) [] := by
  simp only [G_accepts, g_accepts, g_accepts_1, g_accepts_2, g_accepts_3, g_accepts_4, g_accepts_5, g_accepts_6, seqS_eq, nxS, bkS, ctS, nxt_nx, nxt_rt, nxt_bk, nxt_ct, ifS_eq, ifE_eq, brR_t, brR_f, brR_dec, anT_eq, orT_eq, anE_eq, orE_eq, tst_eq, isB_bl, ↓R.bind_bd, R.bd_ok, R.of_some, noT, blE, vr, cst, op1, op2, setS, setR, nxO, asgS, tupG, cnsG, nilG, nmG, subGO, subG, subS, getM, ixM, putO, cnsA, nilA, dTup, dLst, frz, retS, retM, setM, exS, mutS, appO, opC, callE, callM, callG_eq, cnsB, nilB, slB, kwB, ioM, toArgs, okA, slsA, nodN, argG_some, goG_ok, asE, asM, putA, newM, putM, parS, par3S, frzS, frzAt, bindO, endR_rt, endR_nx, endG, FL.collect, bodyG_eq, rho0, toS, wipeR, FL.pick, tru, truD, chn, lenM, isiD, typD, isTy,   List.getElem?_cons_zero, List.getElem?_cons_succ, List.getElem?_nil, List.set_cons_zero, List.set_cons_succ, List.set_nil, List.length_cons, List.length_nil, List.mapIdx_cons, List.mapIdx_nil, List.map_cons, List.map_nil, List.replicate_succ, List.replicate_zero, List.cons_append, List.nil_append, List.append_nil, List.foldl_cons, List.foldl_nil, List.filterMap_cons, List.filterMap_nil, Option.map_some, Option.map_none, Option.bind_some, Option.bind_none, Bool.not_true, Bool.not_false, Bool.and_true, Bool.true_and, Bool.or_true, Bool.and_self, if_true, if_false,   eqA_int, neA_int, eqA_str, neA_str, ltD_int, leD_int, gtD_int, geD_int, addD_int, subD_int, negD_int, absC_int, intC_int, maxC_int, minC_int, lenC_lst, lenC_tup, lenC_scr, Int.cast_ofNat_Int, Int.natCast_zero, Int.natCast_one,   ↓reduceIte, Nat.reduceAdd, Nat.reduceSub, Nat.reduceMul, Nat.reduceLT, Nat.reduceLeDiff, Nat.reduceBEq, Nat.reduceBneDiff, Nat.reduceEqDiff, Nat.reducePow, Int.reduceLT, Int.reduceLE, Int.reduceEq, Int.reduceNe, Int.reduceAdd, Int.reduceSub, Int.reduceMul, Int.reduceNeg, Int.reducePow, Int.reduceToNat, decide_true, decide_false, decide_eq_true_eq, Bool.false_eq_true, List.contains_nil, List.contains_cons, Bool.or_false, Bool.or_self, eq_self, and_self, and_true, true_and, is_claim_alike, h]
theorem accepts_alike {p q p' q' : Int} {x : D} {b : Bool} (h : (pairB p q && (pairB p' q' && decide (p = p'))) = true) (e : G_shows_alike [.val (D2 p q), .val (D2 p' q'), .val x] = .ok (.v (.bl b)) []) : G_accepts [.val (.tup [.str "alike", D2 p q, D2 p' q']), .val x] = .ok (.v (.bl b)) [] := by
  simp only [G_accepts, g_accepts, g_accepts_1, g_accepts_2, g_accepts_3, g_accepts_4, g_accepts_5, g_accepts_6, seqS_eq, nxS, bkS, ctS, nxt_nx, nxt_rt, nxt_bk, nxt_ct, ifS_eq, ifE_eq, brR_t, brR_f, brR_dec, anT_eq, orT_eq, anE_eq, orE_eq, tst_eq, isB_bl, ↓R.bind_bd, R.bd_ok, R.of_some, noT, blE, vr, cst, op1, op2, setS, setR, nxO, asgS, tupG, cnsG, nilG, nmG, subGO, subG, subS, getM, ixM, putO, cnsA, nilA, dTup, dLst, frz, retS, retM, setM, exS, mutS, appO, opC, callE, callM, callG_eq, cnsB, nilB, slB, kwB, ioM, toArgs, okA, slsA, nodN, argG_some, goG_ok, asE, asM, putA, newM, putM, parS, par3S, frzS, frzAt, bindO, endR_rt, endR_nx, endG, FL.collect, bodyG_eq, rho0, toS, wipeR, FL.pick, tru, truD, chn, lenM, isiD, typD, isTy,   List.getElem?_cons_zero, List.getElem?_cons_succ, List.getElem?_nil, List.set_cons_zero, List.set_cons_succ, List.set_nil, List.length_cons, List.length_nil, List.mapIdx_cons, List.mapIdx_nil, List.map_cons, List.map_nil, List.replicate_succ, List.replicate_zero, List.cons_append, List.nil_append, List.append_nil, List.foldl_cons, List.foldl_nil, List.filterMap_cons, List.filterMap_nil, Option.map_some, Option.map_none, Option.bind_some, Option.bind_none, Bool.not_true, Bool.not_false, Bool.and_true, Bool.true_and, Bool.or_true, Bool.and_self, if_true, if_false,   eqA_int, neA_int, eqA_str, neA_str, ltD_int, leD_int, gtD_int, geD_int, addD_int, subD_int, negD_int, absC_int, intC_int, maxC_int, minC_int, lenC_lst, lenC_tup, lenC_scr, Int.cast_ofNat_Int, Int.natCast_zero, Int.natCast_one,   ↓reduceIte, Nat.reduceAdd, Nat.reduceSub, Nat.reduceMul, Nat.reduceLT, Nat.reduceLeDiff, Nat.reduceBEq, Nat.reduceBneDiff, Nat.reduceEqDiff, Nat.reducePow, Int.reduceLT, Int.reduceLE, Int.reduceEq, Int.reduceNe, Int.reduceAdd, Int.reduceSub, Int.reduceMul, Int.reduceNeg, Int.reducePow, Int.reduceToNat, decide_true, decide_false, decide_eq_true_eq, Bool.false_eq_true, List.contains_nil, List.contains_cons, Bool.or_false, Bool.or_self, eq_self, and_self, and_true, true_and, is_claim_alike, h, s_alike.1, s_alike.2, e]

theorem somep_val {m p q : Int} (h : SomeP m p q) (hm : m ≤ 90000) : pairB p q = true ∧ 0 ≤ p ∧ q.natAbs < 2 ^ 200 := by
  have big : (100000 : Nat) < 2 ^ 200 := by decide +kernel
  rcases h with ⟨rfl, rfl⟩ | ⟨rfl, rfl⟩ | ⟨h1, h2, h3, h4, h5⟩
  · exact ⟨rfl, by omega, by omega⟩
  · exact ⟨rfl, by omega, by omega⟩
  · refine ⟨?_, by omega, by omega⟩
    unfold pairB
    rw [if_neg (by omega), decide_eq_true (by omega), decide_eq_true h4, decide_eq_true h5]
    rfl

theorem rep2 (b : Bool) : reprC [.lst [.bl b, .bl b]] = some (.str (toP (.lst [.bl b, .bl b])).shown) := by
  cases b <;> rfl

structure PapOk (x : D) : Prop where
  ty : (typD x).isSome = true
  ways : (∃ i, x = .int i) ∨ (∃ b, x = .bl b) ∨ (isInt x = false ∧ isiD .bl x = some (.bl false) ∧ ninA x (.lst [.int 1, .int (-1)]) = some (.bl true))
theorem pap_odd {x : D} (h : x ∈ oddL) : PapOk x := by
  simp only [oddL, List.mem_cons, List.not_mem_nil, or_false] at h
  rcases h with rfl | rfl | rfl | rfl | rfl | rfl | rfl | rfl | rfl | rfl | rfl | rfl | rfl | rfl | rfl | rfl | rfl
  all_goals first
    | exact ⟨rfl, .inl ⟨_, rfl⟩⟩
    | exact ⟨rfl, .inr (.inl ⟨_, rfl⟩)⟩
    | exact ⟨rfl, .inr (.inr ⟨rfl, rfl, ninA_str (by decide +kernel)⟩)⟩
    | exact ⟨rfl, .inr (.inr ⟨rfl, rfl, rfl⟩)⟩
def dueB (p q p' q' : Int) : D → Bool
  | .int i => (decide (i = 1) || decide (i = -1)) && (decide (p = p') && (if p < 2 then decide (i = 1) else decide ((q' - i * q) % p = 0) || decide ((q * q' - i) % p = 0)))
  | _ => false
theorem due_ok {p q p' q' : Int} {x : D} (h : PapOk x) (hp : 0 ≤ p) (b1 : q.natAbs < 2 ^ 200) (b2 : q'.natAbs < 2 ^ 200) : G__law_due [.val (D2 p q), .val (D2 p' q'), .val x] = .ok (.v (.bl (dueB p q p' q' x))) [] := by
  have a0 : ∀ p q : Int, ixD (D2 p q) (.int 0) = some (.int p) := fun _ _ => rfl
  have a1 : ∀ p q : Int, ixD (D2 p q) (.int 1) = some (.int q) := fun _ _ => rfl
  rcases h.ways with ⟨i, rfl⟩ | ⟨b, rfl⟩ | ⟨h1, h2, h3⟩
  · unfold dueB
    by_cases hi : i = 1 ∨ i = -1
    · have hs : (decide (i = 1) || decide (i = -1)) = true := by rcases hi with rfl | rfl <;> rfl
      by_cases hq : p = p'
      · subst hq
        by_cases h2 : p < 2
        · simp only [G__law_due, g__law_due, seqS_eq, nxS, bkS, ctS, nxt_nx, nxt_rt, nxt_bk, nxt_ct, ifS_eq, ifE_eq, brR_t, brR_f, brR_dec, anT_eq, orT_eq, anE_eq, orE_eq, tst_eq, isB_bl, ↓R.bind_bd, R.bd_ok, R.of_some, noT, blE, vr, cst, op1, op2, setS, setR, nxO, asgS, tupG, cnsG, nilG, nmG, subGO, subG, subS, getM, ixM, putO, cnsA, nilA, dTup, dLst, frz, retS, retM, setM, exS, mutS, appO, opC, callE, callM, callG_eq, cnsB, nilB, slB, kwB, ioM, toArgs, okA, slsA, nodN, argG_some, goG_ok, asE, asM, putA, newM, putM, parS, par3S, frzS, frzAt, bindO, endR_rt, endR_nx, endG, FL.collect, bodyG_eq, rho0, toS, wipeR, FL.pick, tru, truD, chn, lenM, isiD, typD, isTy,   List.getElem?_cons_zero, List.getElem?_cons_succ, List.getElem?_nil, List.set_cons_zero, List.set_cons_succ, List.set_nil, List.length_cons, List.length_nil, List.mapIdx_cons, List.mapIdx_nil, List.map_cons, List.map_nil, List.replicate_succ, List.replicate_zero, List.cons_append, List.nil_append, List.append_nil, List.foldl_cons, List.foldl_nil, List.filterMap_cons, List.filterMap_nil, Option.map_some, Option.map_none, Option.bind_some, Option.bind_none, Bool.not_true, Bool.not_false, Bool.and_true, Bool.true_and, Bool.or_true, Bool.and_self, if_true, if_false,   eqA_int, neA_int, eqA_str, neA_str, ltD_int, leD_int, gtD_int, geD_int, addD_int, subD_int, negD_int, absC_int, intC_int, maxC_int, minC_int, lenC_lst, lenC_tup, lenC_scr, Int.cast_ofNat_Int, Int.natCast_zero, Int.natCast_one,   ↓reduceIte, Nat.reduceAdd, Nat.reduceSub, Nat.reduceMul, Nat.reduceLT, Nat.reduceLeDiff, Nat.reduceBEq, Nat.reduceBneDiff, Nat.reduceEqDiff, Nat.reducePow, Int.reduceLT, Int.reduceLE, Int.reduceEq, Int.reduceNe, Int.reduceAdd, Int.reduceSub, Int.reduceMul, Int.reduceNeg, Int.reducePow, Int.reduceToNat, decide_true, decide_false, decide_eq_true_eq, Bool.false_eq_true, List.contains_nil, List.contains_cons, Bool.or_false, Bool.or_self, eq_self, and_self, and_true, true_and, small, a0, a1, ninA_int2, hs, h2]
        · have m1 : mulD (.int i) (.int q) = some (.int (i * q)) := mulD_l (by omega)
          have m2 : mulD (.int q) (.int q') = some (.int (q * q')) := mulD_w b1 b2
          have f : ∀ x : Int, modD (.int x) (.int p) = some (.int (x % p)) := fun x => modD_pos (by omega)
          by_cases h3 : (q' - i * q) % p = 0
          · simp only [G__law_due, g__law_due, seqS_eq, nxS, bkS, ctS, nxt_nx, nxt_rt, nxt_bk, nxt_ct, ifS_eq, ifE_eq, brR_t, brR_f, brR_dec, anT_eq, orT_eq, anE_eq, orE_eq, tst_eq, isB_bl, ↓R.bind_bd, R.bd_ok, R.of_some, noT, blE, vr, cst, op1, op2, setS, setR, nxO, asgS, tupG, cnsG, nilG, nmG, subGO, subG, subS, getM, ixM, putO, cnsA, nilA, dTup, dLst, frz, retS, retM, setM, exS, mutS, appO, opC, callE, callM, callG_eq, cnsB, nilB, slB, kwB, ioM, toArgs, okA, slsA, nodN, argG_some, goG_ok, asE, asM, putA, newM, putM, parS, par3S, frzS, frzAt, bindO, endR_rt, endR_nx, endG, FL.collect, bodyG_eq, rho0, toS, wipeR, FL.pick, tru, truD, chn, lenM, isiD, typD, isTy,   List.getElem?_cons_zero, List.getElem?_cons_succ, List.getElem?_nil, List.set_cons_zero, List.set_cons_succ, List.set_nil, List.length_cons, List.length_nil, List.mapIdx_cons, List.mapIdx_nil, List.map_cons, List.map_nil, List.replicate_succ, List.replicate_zero, List.cons_append, List.nil_append, List.append_nil, List.foldl_cons, List.foldl_nil, List.filterMap_cons, List.filterMap_nil, Option.map_some, Option.map_none, Option.bind_some, Option.bind_none, Bool.not_true, Bool.not_false, Bool.and_true, Bool.true_and, Bool.or_true, Bool.and_self, if_true, if_false,   eqA_int, neA_int, eqA_str, neA_str, ltD_int, leD_int, gtD_int, geD_int, addD_int, subD_int, negD_int, absC_int, intC_int, maxC_int, minC_int, lenC_lst, lenC_tup, lenC_scr, Int.cast_ofNat_Int, Int.natCast_zero, Int.natCast_one,   ↓reduceIte, Nat.reduceAdd, Nat.reduceSub, Nat.reduceMul, Nat.reduceLT, Nat.reduceLeDiff, Nat.reduceBEq, Nat.reduceBneDiff, Nat.reduceEqDiff, Nat.reducePow, Int.reduceLT, Int.reduceLE, Int.reduceEq, Int.reduceNe, Int.reduceAdd, Int.reduceSub, Int.reduceMul, Int.reduceNeg, Int.reducePow, Int.reduceToNat, decide_true, decide_false, decide_eq_true_eq, Bool.false_eq_true, List.contains_nil, List.contains_cons, Bool.or_false, Bool.or_self, eq_self, and_self, and_true, true_and, small, a0, a1, ninA_int2, hs, h2, m1, m2, f, h3, Bool.true_or]
          · simp only [G__law_due, g__law_due, seqS_eq, nxS, bkS, ctS, nxt_nx, nxt_rt, nxt_bk, nxt_ct, ifS_eq, ifE_eq, brR_t, brR_f, brR_dec, anT_eq, orT_eq, anE_eq, orE_eq, tst_eq, isB_bl, ↓R.bind_bd, R.bd_ok, R.of_some, noT, blE, vr, cst, op1, op2, setS, setR, nxO, asgS, tupG, cnsG, nilG, nmG, subGO, subG, subS, getM, ixM, putO, cnsA, nilA, dTup, dLst, frz, retS, retM, setM, exS, mutS, appO, opC, callE, callM, callG_eq, cnsB, nilB, slB, kwB, ioM, toArgs, okA, slsA, nodN, argG_some, goG_ok, asE, asM, putA, newM, putM, parS, par3S, frzS, frzAt, bindO, endR_rt, endR_nx, endG, FL.collect, bodyG_eq, rho0, toS, wipeR, FL.pick, tru, truD, chn, lenM, isiD, typD, isTy,   List.getElem?_cons_zero, List.getElem?_cons_succ, List.getElem?_nil, List.set_cons_zero, List.set_cons_succ, List.set_nil, List.length_cons, List.length_nil, List.mapIdx_cons, List.mapIdx_nil, List.map_cons, List.map_nil, List.replicate_succ, List.replicate_zero, List.cons_append, List.nil_append, List.append_nil, List.foldl_cons, List.foldl_nil, List.filterMap_cons, List.filterMap_nil, Option.map_some, Option.map_none, Option.bind_some, Option.bind_none, Bool.not_true, Bool.not_false, Bool.and_true, Bool.true_and, Bool.or_true, Bool.and_self, if_true, if_false,   eqA_int, neA_int, eqA_str, neA_str, ltD_int, leD_int, gtD_int, geD_int, addD_int, subD_int, negD_int, absC_int, intC_int, maxC_int, minC_int, lenC_lst, lenC_tup, lenC_scr, Int.cast_ofNat_Int, Int.natCast_zero, Int.natCast_one,   ↓reduceIte, Nat.reduceAdd, Nat.reduceSub, Nat.reduceMul, Nat.reduceLT, Nat.reduceLeDiff, Nat.reduceBEq, Nat.reduceBneDiff, Nat.reduceEqDiff, Nat.reducePow, Int.reduceLT, Int.reduceLE, Int.reduceEq, Int.reduceNe, Int.reduceAdd, Int.reduceSub, Int.reduceMul, Int.reduceNeg, Int.reducePow, Int.reduceToNat, decide_true, decide_false, decide_eq_true_eq, Bool.false_eq_true, List.contains_nil, List.contains_cons, Bool.or_false, Bool.or_self, eq_self, and_self, and_true, true_and, small, a0, a1, ninA_int2, hs, h2, m1, m2, f, h3, Bool.false_or]
      · simp only [G__law_due, g__law_due, seqS_eq, nxS, bkS, ctS, nxt_nx, nxt_rt, nxt_bk, nxt_ct, ifS_eq, ifE_eq, brR_t, brR_f, brR_dec, anT_eq, orT_eq, anE_eq, orE_eq, tst_eq, isB_bl, ↓R.bind_bd, R.bd_ok, R.of_some, noT, blE, vr, cst, op1, op2, setS, setR, nxO, asgS, tupG, cnsG, nilG, nmG, subGO, subG, subS, getM, ixM, putO, cnsA, nilA, dTup, dLst, frz, retS, retM, setM, exS, mutS, appO, opC, callE, callM, callG_eq, cnsB, nilB, slB, kwB, ioM, toArgs, okA, slsA, nodN, argG_some, goG_ok, asE, asM, putA, newM, putM, parS, par3S, frzS, frzAt, bindO, endR_rt, endR_nx, endG, FL.collect, bodyG_eq, rho0, toS, wipeR, FL.pick, tru, truD, chn, lenM, isiD, typD, isTy,   List.getElem?_cons_zero, List.getElem?_cons_succ, List.getElem?_nil, List.set_cons_zero, List.set_cons_succ, List.set_nil, List.length_cons, List.length_nil, List.mapIdx_cons, List.mapIdx_nil, List.map_cons, List.map_nil, List.replicate_succ, List.replicate_zero, List.cons_append, List.nil_append, List.append_nil, List.foldl_cons, List.foldl_nil, List.filterMap_cons, List.filterMap_nil, Option.map_some, Option.map_none, Option.bind_some, Option.bind_none, Bool.not_true, Bool.not_false, Bool.and_true, Bool.true_and, Bool.or_true, Bool.and_self, if_true, if_false,   eqA_int, neA_int, eqA_str, neA_str, ltD_int, leD_int, gtD_int, geD_int, addD_int, subD_int, negD_int, absC_int, intC_int, maxC_int, minC_int, lenC_lst, lenC_tup, lenC_scr, Int.cast_ofNat_Int, Int.natCast_zero, Int.natCast_one,   ↓reduceIte, Nat.reduceAdd, Nat.reduceSub, Nat.reduceMul, Nat.reduceLT, Nat.reduceLeDiff, Nat.reduceBEq, Nat.reduceBneDiff, Nat.reduceEqDiff, Nat.reducePow, Int.reduceLT, Int.reduceLE, Int.reduceEq, Int.reduceNe, Int.reduceAdd, Int.reduceSub, Int.reduceMul, Int.reduceNeg, Int.reducePow, Int.reduceToNat, decide_true, decide_false, decide_eq_true_eq, Bool.false_eq_true, List.contains_nil, List.contains_cons, Bool.or_false, Bool.or_self, eq_self, and_self, and_true, true_and, small, a0, a1, ninA_int2, hs, hq, Bool.false_and]
    · have hs : (decide (i = 1) || decide (i = -1)) = false := by
        rw [decide_eq_false (fun z => hi (.inl z)), decide_eq_false (fun z => hi (.inr z))]
        rfl
      simp only [G__law_due, g__law_due, seqS_eq, nxS, bkS, ctS, nxt_nx, nxt_rt, nxt_bk, nxt_ct, ifS_eq, ifE_eq, brR_t, brR_f, brR_dec, anT_eq, orT_eq, anE_eq, orE_eq, tst_eq, isB_bl, ↓R.bind_bd, R.bd_ok, R.of_some, noT, blE, vr, cst, op1, op2, setS, setR, nxO, asgS, tupG, cnsG, nilG, nmG, subGO, subG, subS, getM, ixM, putO, cnsA, nilA, dTup, dLst, frz, retS, retM, setM, exS, mutS, appO, opC, callE, callM, callG_eq, cnsB, nilB, slB, kwB, ioM, toArgs, okA, slsA, nodN, argG_some, goG_ok, asE, asM, putA, newM, putM, parS, par3S, frzS, frzAt, bindO, endR_rt, endR_nx, endG, FL.collect, bodyG_eq, rho0, toS, wipeR, FL.pick, tru, truD, chn, lenM, isiD, typD, isTy,   List.getElem?_cons_zero, List.getElem?_cons_succ, List.getElem?_nil, List.set_cons_zero, List.set_cons_succ, List.set_nil, List.length_cons, List.length_nil, List.mapIdx_cons, List.mapIdx_nil, List.map_cons, List.map_nil, List.replicate_succ, List.replicate_zero, List.cons_append, List.nil_append, List.append_nil, List.foldl_cons, List.foldl_nil, List.filterMap_cons, List.filterMap_nil, Option.map_some, Option.map_none, Option.bind_some, Option.bind_none, Bool.not_true, Bool.not_false, Bool.and_true, Bool.true_and, Bool.or_true, Bool.and_self, if_true, if_false,   eqA_int, neA_int, eqA_str, neA_str, ltD_int, leD_int, gtD_int, geD_int, addD_int, subD_int, negD_int, absC_int, intC_int, maxC_int, minC_int, lenC_lst, lenC_tup, lenC_scr, Int.cast_ofNat_Int, Int.natCast_zero, Int.natCast_one,   ↓reduceIte, Nat.reduceAdd, Nat.reduceSub, Nat.reduceMul, Nat.reduceLT, Nat.reduceLeDiff, Nat.reduceBEq, Nat.reduceBneDiff, Nat.reduceEqDiff, Nat.reducePow, Int.reduceLT, Int.reduceLE, Int.reduceEq, Int.reduceNe, Int.reduceAdd, Int.reduceSub, Int.reduceMul, Int.reduceNeg, Int.reducePow, Int.reduceToNat, decide_true, decide_false, decide_eq_true_eq, Bool.false_eq_true, List.contains_nil, List.contains_cons, Bool.or_false, Bool.or_self, eq_self, and_self, and_true, true_and, small, ninA_int2, hs, Bool.false_and]
  · simp only [G__law_due, g__law_due, seqS_eq, nxS, bkS, ctS, nxt_nx, nxt_rt, nxt_bk, nxt_ct, ifS_eq, ifE_eq, brR_t, brR_f, brR_dec, anT_eq, orT_eq, anE_eq, orE_eq, tst_eq, isB_bl, ↓R.bind_bd, R.bd_ok, R.of_some, noT, blE, vr, cst, op1, op2, setS, setR, nxO, asgS, tupG, cnsG, nilG, nmG, subGO, subG, subS, getM, ixM, putO, cnsA, nilA, dTup, dLst, frz, retS, retM, setM, exS, mutS, appO, opC, callE, callM, callG_eq, cnsB, nilB, slB, kwB, ioM, toArgs, okA, slsA, nodN, argG_some, goG_ok, asE, asM, putA, newM, putM, parS, par3S, frzS, frzAt, bindO, endR_rt, endR_nx, endG, FL.collect, bodyG_eq, rho0, toS, wipeR, FL.pick, tru, truD, chn, lenM, isiD, typD, isTy,   List.getElem?_cons_zero, List.getElem?_cons_succ, List.getElem?_nil, List.set_cons_zero, List.set_cons_succ, List.set_nil, List.length_cons, List.length_nil, List.mapIdx_cons, List.mapIdx_nil, List.map_cons, List.map_nil, List.replicate_succ, List.replicate_zero, List.cons_append, List.nil_append, List.append_nil, List.foldl_cons, List.foldl_nil, List.filterMap_cons, List.filterMap_nil, Option.map_some, Option.map_none, Option.bind_some, Option.bind_none, Bool.not_true, Bool.not_false, Bool.and_true, Bool.true_and, Bool.or_true, Bool.and_self, if_true, if_false,   eqA_int, neA_int, eqA_str, neA_str, ltD_int, leD_int, gtD_int, geD_int, addD_int, subD_int, negD_int, absC_int, intC_int, maxC_int, minC_int, lenC_lst, lenC_tup, lenC_scr, Int.cast_ofNat_Int, Int.natCast_zero, Int.natCast_one,   ↓reduceIte, Nat.reduceAdd, Nat.reduceSub, Nat.reduceMul, Nat.reduceLT, Nat.reduceLeDiff, Nat.reduceBEq, Nat.reduceBneDiff, Nat.reduceEqDiff, Nat.reducePow, Int.reduceLT, Int.reduceLE, Int.reduceEq, Int.reduceNe, Int.reduceAdd, Int.reduceSub, Int.reduceMul, Int.reduceNeg, Int.reducePow, Int.reduceToNat, decide_true, decide_false, decide_eq_true_eq, Bool.false_eq_true, List.contains_nil, List.contains_cons, Bool.or_false, Bool.or_self, eq_self, and_self, and_true, true_and, dueB]
  · have e : dueB p q p' q' x = false := by cases x <;> first | rfl | cases h1
    have h2' : op1 (isiD .bl) (vr 2) [.val (D2 p q), .val (D2 p' q'), .val x] = .ok (.bl false) [.val (D2 p q), .val (D2 p' q'), .val x] := by
      show R.of (isiD .bl x) _ = _
      rw [h2]
      rfl
    rw [e]
    simp only [G__law_due, g__law_due, bodyG_eq, rho0, toS, List.map_cons, List.map_nil, List.length_cons, List.length_nil, Nat.reduceAdd, Nat.reduceSub, List.replicate_zero, List.append_nil, seqS_eq, ifS_eq, orT_eq, tst_eq, h2', ↓R.bind_bd, R.bd_ok, isB_bl, R.of_some]
    simp only [seqS_eq, nxS, bkS, ctS, nxt_nx, nxt_rt, nxt_bk, nxt_ct, ifS_eq, ifE_eq, brR_t, brR_f, brR_dec, anT_eq, orT_eq, anE_eq, orE_eq, tst_eq, isB_bl, ↓R.bind_bd, R.bd_ok, R.of_some, noT, blE, vr, cst, op1, op2, setS, setR, nxO, asgS, tupG, cnsG, nilG, nmG, subGO, subG, subS, getM, ixM, putO, cnsA, nilA, dTup, dLst, frz, retS, retM, setM, exS, mutS, appO, opC, callE, callM, callG_eq, cnsB, nilB, slB, kwB, ioM, toArgs, okA, slsA, nodN, argG_some, goG_ok, asE, asM, putA, newM, putM, parS, par3S, frzS, frzAt, bindO, endR_rt, endR_nx, endG, FL.collect, bodyG_eq, rho0, toS, wipeR, FL.pick, tru, truD, chn, lenM, isiD, typD, isTy,   List.getElem?_cons_zero, List.getElem?_cons_succ, List.getElem?_nil, List.set_cons_zero, List.set_cons_succ, List.set_nil, List.length_cons, List.length_nil, List.mapIdx_cons, List.mapIdx_nil, List.map_cons, List.map_nil, List.replicate_succ, List.replicate_zero, List.cons_append, List.nil_append, List.append_nil, List.foldl_cons, List.foldl_nil, List.filterMap_cons, List.filterMap_nil, Option.map_some, Option.map_none, Option.bind_some, Option.bind_none, Bool.not_true, Bool.not_false, Bool.and_true, Bool.true_and, Bool.or_true, Bool.and_self, if_true, if_false,   eqA_int, neA_int, eqA_str, neA_str, ltD_int, leD_int, gtD_int, geD_int, addD_int, subD_int, negD_int, absC_int, intC_int, maxC_int, minC_int, lenC_lst, lenC_tup, lenC_scr, Int.cast_ofNat_Int, Int.natCast_zero, Int.natCast_one,   ↓reduceIte, Nat.reduceAdd, Nat.reduceSub, Nat.reduceMul, Nat.reduceLT, Nat.reduceLeDiff, Nat.reduceBEq, Nat.reduceBneDiff, Nat.reduceEqDiff, Nat.reducePow, Int.reduceLT, Int.reduceLE, Int.reduceEq, Int.reduceNe, Int.reduceAdd, Int.reduceSub, Int.reduceMul, Int.reduceNeg, Int.reducePow, Int.reduceToNat, decide_true, decide_false, decide_eq_true_eq, Bool.false_eq_true, List.contains_nil, List.contains_cons, Bool.or_false, Bool.or_self, eq_self, and_self, and_true, true_and, small, h3]
/-- what both sides say of a paper -/
theorem agree {p q p' q' : Int} {x : D} (h : PapOk x) (h1 : pairB p q = true) (h2 : pairB p' q' = true) (hp : 0 ≤ p) (b1 : q.natAbs < 2 ^ 200) (b2 : q'.natAbs < 2 ^ 200) :
    G_accepts [.val (.tup [.str "alike", D2 p q, D2 p' q']), .val x] = .ok (.v (.bl (dueB p q p' q' x))) [] := by
  by_cases hq : p = p'
  · subst hq
    have hc : (pairB p q && (pairB p q' && decide (p = p))) = true := by rw [h1, h2]; simp
    by_cases hs : signB x = true
    · have z : ∃ i, x = .int i ∧ (i = 1 ∨ i = -1) := by
        cases x <;> first | (cases hs; done) | skip
        rename_i i
        exact ⟨i, rfl, by simpa [signB] using hs⟩
      obtain ⟨i, rfl, hi⟩ := z
      have hd : (decide (i = 1) || decide (i = -1)) = true := by rcases hi with rfl | rfl <;> rfl
      by_cases h3 : p < 2
      · have e := accepts_alike hc (shows_alike_one (q := q) (p' := p) (q' := q') hi h3)
        rw [e]
        have hqq : q = q' := by
          unfold pairB at h1 h2
          by_cases h0 : p = 0
          · rw [if_pos h0] at h1 h2
            rw [of_decide_eq_true h1, of_decide_eq_true h2]
          · rw [if_neg h0] at h1 h2
            simp only [Bool.and_eq_true, decide_eq_true_eq] at h1 h2
            omega
        subst hqq
        unfold dueB
        simp [hd, h3]
      · have e := accepts_alike hc (shows_alike_big (p' := p) hi (by omega) b1 b2)
        rw [e]
        have ee : (i * q - q') % p = 0 ↔ (q' - i * q) % p = 0 := by
          rw [← Int.dvd_iff_emod_eq_zero, ← Int.dvd_iff_emod_eq_zero]
          rw [show i * q - q' = -(q' - i * q) by omega, Int.dvd_neg]
        unfold dueB
        simp [hd, h3, ee]
    · have hs' : signB x = false := by simpa using hs
      clear hs
      have e := accepts_alike hc (shows_alike_no (p := p) (q := q) (p' := p) (q' := q') h.ty hs')
      rw [e]
      have ed : dueB p q p q' x = false := by
        cases x <;> first | rfl | skip
        rename_i i
        have hs : (decide (i = 1) || decide (i = -1)) = false := hs'
        unfold dueB
        simp only [hs, Bool.false_and]
      rw [ed]
  · have e := accepts_alike_no (p := p) (q := q) (p' := p') (q' := q') (x := x) (by rw [h1, h2, decide_eq_false hq]; rfl)
    rw [e]
    have ed : dueB p q p' q' x = false := by
      cases x <;> first | rfl | skip
      unfold dueB
      rw [decide_eq_false hq]
      simp
    rw [ed]
theorem big_val {p q : Int} (h : p = 1000000000000000000000000000000 ∨ p = 1000000000000000000000000000057) (hq : q = 1 ∨ q = p - 1) : pairB p q = true ∧ 0 ≤ p ∧ q.natAbs < 2 ^ 200 := by
  have big : (2000000000000000000000000000000 : Nat) < 2 ^ 200 := by decide +kernel
  refine ⟨?_, by omega, by omega⟩
  have g : Int.gcd p q = 1 := by
    rcases hq with rfl | rfl
    · simp
    · rcases h with rfl | rfl <;> decide +kernel
  unfold pairB
  rw [if_neg (by omega), decide_eq_true (by omega), decide_eq_true (by omega), decide_eq_true g]
  rfl
/-- what stands behind the pairs in a turn -/
theorem tail_ok {n : Nat} {s : M} (hs : Sp n s) (hn : n ≤ 900000000) : ∃ (d1 d : D) (s1 s2 : M), G__law_odd [.io s] = .ok (.v d1) [s1] ∧ G__law_any [.io s1, .val (.lst [.int 1, .int (-1), .int 1, .int (-1), .int 1, .int (-1), d1])] = .ok (.v d) [s2] ∧ PapOk d ∧ Sp (n + 2) s2 := by
  obtain ⟨d1, s1, m1, e1, h1⟩ := odd_ok hs (by omega)
  obtain ⟨d, s2, m2, e2, h2⟩ := any_ok h1 (xs := [.int 1, .int (-1), .int 1, .int (-1), .int 1, .int (-1), d1]) (by simp) (by simp) (by omega)
  refine ⟨d1, d, s1, s2, e1, e2, ?_, h2⟩
  simp only [List.mem_cons, List.not_mem_nil, or_false] at m2
  rcases m2 with rfl | rfl | rfl | rfl | rfl | rfl | rfl
  all_goals first
    | exact ⟨rfl, .inl ⟨_, rfl⟩⟩
    | exact pap_odd m1

theorem spring_ok (ns : List Int) (t : Int) (h0 : 0 ≤ t) : ∃ s : M, G__law_spring [.val (.scr ns), .val (.int t)] = .ok (.m s) [] ∧ Sp 0 s := by
  have m1 : mulD (.int 141421) (.int t) = some (.int (141421 * t)) := mulD_l (by decide)
  have m2 : mulD (.int 17) (.int t) = some (.int (17 * t)) := mulD_l (by decide)
  have f : ∀ x : Int, modD (.int x) (.int 2147483543) = some (.int (x % 2147483543)) := fun x => modD_pos (by decide)
  have pw : powD (.int 10) (.int 18) = some (.int 1000000000000000000) := rfl
  have hit : seqI (slF (vr 0) noO (smO (cst (.int 61)))) [.val (.scr ns), .val (.int t), .val (.int (2236067 + 141421 * t)), .no, .no, .no] = .ok ((cut ns none (some 61)).map D.int) [.val (.scr ns), .val (.int t), .val (.int (2236067 + 141421 * t)), .no, .no, .no] := rfl
  have key : ∀ (ds : List D), (∀ d ∈ ds, ∃ i, d = .int i) → ∀ (m : Int) (e : Slot), ∃ (m' : Int) (e' : Slot), forL [] (nmG 3) b__law_spring_1 ds [.val (.scr ns), .val (.int t), .val (.int m), e, .no, .no] = .ok .nx [.val (.scr ns), .val (.int t), .val (.int m'), e', .no, .no] := by
    intro ds
    induction ds with
    | nil => exact fun _ m e => ⟨m, e, rfl⟩
    | cons d ds ih =>
      intro h m e
      obtain ⟨i, rfl⟩ := h d List.mem_cons_self
      have m1 : mulD (.int m) (.int 48679) = some (.int (m * 48679)) := mulD_r (by decide)
      have m2 : mulD (.int i) (.int 13) = some (.int (i * 13)) := mulD_r (by decide)
      have f : ∀ x : Int, modD (.int x) (.int 2147483549) = some (.int (x % 2147483549)) := fun x => modD_pos (by decide)
      obtain ⟨m', e', ih⟩ := ih (fun d hd => h d (List.mem_cons_of_mem _ hd)) ((m * 48679 + i * 13 + 101) % 2147483549) (.val (.int i))
      have eb : b__law_spring_1 [.val (.scr ns), .val (.int t), .val (.int m), .val (.int i), .no, .no] = .ok .nx [.val (.scr ns), .val (.int t), .val (.int ((m * 48679 + i * 13 + 101) % 2147483549)), .val (.int i), .no, .no] := by simp only [b__law_spring_1, seqS_eq, nxS, bkS, ctS, nxt_nx, nxt_rt, nxt_bk, nxt_ct, ifS_eq, ifE_eq, brR_t, brR_f, brR_dec, anT_eq, orT_eq, anE_eq, orE_eq, tst_eq, isB_bl, ↓R.bind_bd, R.bd_ok, R.of_some, noT, blE, vr, cst, op1, op2, setS, setR, nxO, asgS, tupG, cnsG, nilG, nmG, subGO, subG, subS, getM, ixM, putO, cnsA, nilA, dTup, dLst, frz, retS, retM, setM, exS, mutS, appO, opC, callE, callM, callG_eq, cnsB, nilB, slB, kwB, ioM, toArgs, okA, slsA, nodN, argG_some, goG_ok, asE, asM, putA, newM, putM, parS, par3S, frzS, frzAt, bindO, endR_rt, endR_nx, endG, FL.collect, bodyG_eq, rho0, toS, wipeR, FL.pick, tru, truD, chn, lenM, isiD, typD, isTy,   List.getElem?_cons_zero, List.getElem?_cons_succ, List.getElem?_nil, List.set_cons_zero, List.set_cons_succ, List.set_nil, List.length_cons, List.length_nil, List.mapIdx_cons, List.mapIdx_nil, List.map_cons, List.map_nil, List.replicate_succ, List.replicate_zero, List.cons_append, List.nil_append, List.append_nil, List.foldl_cons, List.foldl_nil, List.filterMap_cons, List.filterMap_nil, Option.map_some, Option.map_none, Option.bind_some, Option.bind_none, Bool.not_true, Bool.not_false, Bool.and_true, Bool.true_and, Bool.or_true, Bool.and_self, if_true, if_false,   eqA_int, neA_int, eqA_str, neA_str, ltD_int, leD_int, gtD_int, geD_int, addD_int, subD_int, negD_int, absC_int, intC_int, maxC_int, minC_int, lenC_lst, lenC_tup, lenC_scr, Int.cast_ofNat_Int, Int.natCast_zero, Int.natCast_one,   ↓reduceIte, Nat.reduceAdd, Nat.reduceSub, Nat.reduceMul, Nat.reduceLT, Nat.reduceLeDiff, Nat.reduceBEq, Nat.reduceBneDiff, Nat.reduceEqDiff, Nat.reducePow, Int.reduceLT, Int.reduceLE, Int.reduceEq, Int.reduceNe, Int.reduceAdd, Int.reduceSub, Int.reduceMul, Int.reduceNeg, Int.reducePow, Int.reduceToNat, decide_true, decide_false, decide_eq_true_eq, Bool.false_eq_true, List.contains_nil, List.contains_cons, Bool.or_false, Bool.or_self, eq_self, and_self, and_true, true_and, m1, m2, f]
      exact ⟨m', e', by simp only [forL_cons, seqS_eq, nxS, bkS, ctS, nxt_nx, nxt_rt, nxt_bk, nxt_ct, ifS_eq, ifE_eq, brR_t, brR_f, brR_dec, anT_eq, orT_eq, anE_eq, orE_eq, tst_eq, isB_bl, ↓R.bind_bd, R.bd_ok, R.of_some, noT, blE, vr, cst, op1, op2, setS, setR, nxO, asgS, tupG, cnsG, nilG, nmG, subGO, subG, subS, getM, ixM, putO, cnsA, nilA, dTup, dLst, frz, retS, retM, setM, exS, mutS, appO, opC, callE, callM, callG_eq, cnsB, nilB, slB, kwB, ioM, toArgs, okA, slsA, nodN, argG_some, goG_ok, asE, asM, putA, newM, putM, parS, par3S, frzS, frzAt, bindO, endR_rt, endR_nx, endG, FL.collect, bodyG_eq, rho0, toS, wipeR, FL.pick, tru, truD, chn, lenM, isiD, typD, isTy,   List.getElem?_cons_zero, List.getElem?_cons_succ, List.getElem?_nil, List.set_cons_zero, List.set_cons_succ, List.set_nil, List.length_cons, List.length_nil, List.mapIdx_cons, List.mapIdx_nil, List.map_cons, List.map_nil, List.replicate_succ, List.replicate_zero, List.cons_append, List.nil_append, List.append_nil, List.foldl_cons, List.foldl_nil, List.filterMap_cons, List.filterMap_nil, Option.map_some, Option.map_none, Option.bind_some, Option.bind_none, Bool.not_true, Bool.not_false, Bool.and_true, Bool.true_and, Bool.or_true, Bool.and_self, if_true, if_false,   eqA_int, neA_int, eqA_str, neA_str, ltD_int, leD_int, gtD_int, geD_int, addD_int, subD_int, negD_int, absC_int, intC_int, maxC_int, minC_int, lenC_lst, lenC_tup, lenC_scr, Int.cast_ofNat_Int, Int.natCast_zero, Int.natCast_one,   ↓reduceIte, Nat.reduceAdd, Nat.reduceSub, Nat.reduceMul, Nat.reduceLT, Nat.reduceLeDiff, Nat.reduceBEq, Nat.reduceBneDiff, Nat.reduceEqDiff, Nat.reducePow, Int.reduceLT, Int.reduceLE, Int.reduceEq, Int.reduceNe, Int.reduceAdd, Int.reduceSub, Int.reduceMul, Int.reduceNeg, Int.reducePow, Int.reduceToNat, decide_true, decide_false, decide_eq_true_eq, Bool.false_eq_true, List.contains_nil, List.contains_cons, Bool.or_false, Bool.or_self, eq_self, and_self, and_true, true_and, eb, aftF, ih]⟩
  obtain ⟨m', e', el⟩ := key ((cut ns none (some 61)).map D.int) (fun d hd => by obtain ⟨i, _, rfl⟩ := List.mem_map.mp hd; exact ⟨i, rfl⟩) (2236067 + 141421 * t) .no
  have m3 : mulD (.int m') (.int 7) = some (.int (m' * 7)) := mulD_r (by decide)
  by_cases hl : t < ns.length
  · have g : ∃ o, ixD (.scr ns) (.int t) = some (.int o) := by
      have hl' : t.toNat < ns.length := by omega
      refine ⟨ns[t.toNat], ?_⟩
      show (atI ns t).map D.int = _
      rw [atI_nat h0 (List.getElem?_eq_getElem hl')]
      rfl
    obtain ⟨o, ho⟩ := g
    by_cases c1 : o < 0
    · refine ⟨.lst [.int (o).natAbs, .int ((m' * 7 + (o)) % 2147483543), .int 0], ?_, _, _, _, rfl, by omega, by omega⟩
      simp only [G__law_spring, g__law_spring, g__law_spring_1, g__law_spring_2, g__law_spring_3, g__law_spring_4, seqS_eq, seqS_eq, nxS, bkS, ctS, nxt_nx, nxt_rt, nxt_bk, nxt_ct, ifS_eq, ifE_eq, brR_t, brR_f, brR_dec, anT_eq, orT_eq, anE_eq, orE_eq, tst_eq, isB_bl, ↓R.bind_bd, R.bd_ok, R.of_some, noT, blE, vr, cst, op1, op2, setS, setR, nxO, asgS, tupG, cnsG, nilG, nmG, subGO, subG, subS, getM, ixM, putO, cnsA, nilA, dTup, dLst, frz, retS, retM, setM, exS, mutS, appO, opC, callE, callM, callG_eq, cnsB, nilB, slB, kwB, ioM, toArgs, okA, slsA, nodN, argG_some, goG_ok, asE, asM, putA, newM, putM, parS, par3S, frzS, frzAt, bindO, endR_rt, endR_nx, endG, FL.collect, bodyG_eq, rho0, toS, wipeR, FL.pick, tru, truD, chn, lenM, isiD, typD, isTy,   List.getElem?_cons_zero, List.getElem?_cons_succ, List.getElem?_nil, List.set_cons_zero, List.set_cons_succ, List.set_nil, List.length_cons, List.length_nil, List.mapIdx_cons, List.mapIdx_nil, List.map_cons, List.map_nil, List.replicate_succ, List.replicate_zero, List.cons_append, List.nil_append, List.append_nil, List.foldl_cons, List.foldl_nil, List.filterMap_cons, List.filterMap_nil, Option.map_some, Option.map_none, Option.bind_some, Option.bind_none, Bool.not_true, Bool.not_false, Bool.and_true, Bool.true_and, Bool.or_true, Bool.and_self, if_true, if_false,   eqA_int, neA_int, eqA_str, neA_str, ltD_int, leD_int, gtD_int, geD_int, addD_int, subD_int, negD_int, absC_int, intC_int, maxC_int, minC_int, lenC_lst, lenC_tup, lenC_scr, Int.cast_ofNat_Int, Int.natCast_zero, Int.natCast_one,   ↓reduceIte, Nat.reduceAdd, Nat.reduceSub, Nat.reduceMul, Nat.reduceLT, Nat.reduceLeDiff, Nat.reduceBEq, Nat.reduceBneDiff, Nat.reduceEqDiff, Nat.reducePow, Int.reduceLT, Int.reduceLE, Int.reduceEq, Int.reduceNe, Int.reduceAdd, Int.reduceSub, Int.reduceMul, Int.reduceNeg, Int.reducePow, Int.reduceToNat, decide_true, decide_false, decide_eq_true_eq, Bool.false_eq_true, List.contains_nil, List.contains_cons, Bool.or_false, Bool.or_self, eq_self, and_self, and_true, true_and, m1, m2, forS_eq, hit, el, hl, ho, m3, f, small, c1]
    · by_cases c2 : 1000000000000000000 ≤ o
      · refine ⟨.lst [.int (o).natAbs, .int ((m' * 7 + (o)) % 2147483543), .int 0], ?_, _, _, _, rfl, by omega, by omega⟩
        simp only [G__law_spring, g__law_spring, g__law_spring_1, g__law_spring_2, g__law_spring_3, g__law_spring_4, seqS_eq, seqS_eq, nxS, bkS, ctS, nxt_nx, nxt_rt, nxt_bk, nxt_ct, ifS_eq, ifE_eq, brR_t, brR_f, brR_dec, anT_eq, orT_eq, anE_eq, orE_eq, tst_eq, isB_bl, ↓R.bind_bd, R.bd_ok, R.of_some, noT, blE, vr, cst, op1, op2, setS, setR, nxO, asgS, tupG, cnsG, nilG, nmG, subGO, subG, subS, getM, ixM, putO, cnsA, nilA, dTup, dLst, frz, retS, retM, setM, exS, mutS, appO, opC, callE, callM, callG_eq, cnsB, nilB, slB, kwB, ioM, toArgs, okA, slsA, nodN, argG_some, goG_ok, asE, asM, putA, newM, putM, parS, par3S, frzS, frzAt, bindO, endR_rt, endR_nx, endG, FL.collect, bodyG_eq, rho0, toS, wipeR, FL.pick, tru, truD, chn, lenM, isiD, typD, isTy,   List.getElem?_cons_zero, List.getElem?_cons_succ, List.getElem?_nil, List.set_cons_zero, List.set_cons_succ, List.set_nil, List.length_cons, List.length_nil, List.mapIdx_cons, List.mapIdx_nil, List.map_cons, List.map_nil, List.replicate_succ, List.replicate_zero, List.cons_append, List.nil_append, List.append_nil, List.foldl_cons, List.foldl_nil, List.filterMap_cons, List.filterMap_nil, Option.map_some, Option.map_none, Option.bind_some, Option.bind_none, Bool.not_true, Bool.not_false, Bool.and_true, Bool.true_and, Bool.or_true, Bool.and_self, if_true, if_false,   eqA_int, neA_int, eqA_str, neA_str, ltD_int, leD_int, gtD_int, geD_int, addD_int, subD_int, negD_int, absC_int, intC_int, maxC_int, minC_int, lenC_lst, lenC_tup, lenC_scr, Int.cast_ofNat_Int, Int.natCast_zero, Int.natCast_one,   ↓reduceIte, Nat.reduceAdd, Nat.reduceSub, Nat.reduceMul, Nat.reduceLT, Nat.reduceLeDiff, Nat.reduceBEq, Nat.reduceBneDiff, Nat.reduceEqDiff, Nat.reducePow, Int.reduceLT, Int.reduceLE, Int.reduceEq, Int.reduceNe, Int.reduceAdd, Int.reduceSub, Int.reduceMul, Int.reduceNeg, Int.reducePow, Int.reduceToNat, decide_true, decide_false, decide_eq_true_eq, Bool.false_eq_true, List.contains_nil, List.contains_cons, Bool.or_false, Bool.or_self, eq_self, and_self, and_true, true_and, m1, m2, forS_eq, hit, el, hl, ho, m3, f, small, c1, c2, pw]
      · refine ⟨.lst [.int 0, .int ((m' * 7 + (o)) % 2147483543), .int 0], ?_, _, _, _, rfl, by omega, by omega⟩
        simp only [G__law_spring, g__law_spring, g__law_spring_1, g__law_spring_2, g__law_spring_3, g__law_spring_4, seqS_eq, seqS_eq, nxS, bkS, ctS, nxt_nx, nxt_rt, nxt_bk, nxt_ct, ifS_eq, ifE_eq, brR_t, brR_f, brR_dec, anT_eq, orT_eq, anE_eq, orE_eq, tst_eq, isB_bl, ↓R.bind_bd, R.bd_ok, R.of_some, noT, blE, vr, cst, op1, op2, setS, setR, nxO, asgS, tupG, cnsG, nilG, nmG, subGO, subG, subS, getM, ixM, putO, cnsA, nilA, dTup, dLst, frz, retS, retM, setM, exS, mutS, appO, opC, callE, callM, callG_eq, cnsB, nilB, slB, kwB, ioM, toArgs, okA, slsA, nodN, argG_some, goG_ok, asE, asM, putA, newM, putM, parS, par3S, frzS, frzAt, bindO, endR_rt, endR_nx, endG, FL.collect, bodyG_eq, rho0, toS, wipeR, FL.pick, tru, truD, chn, lenM, isiD, typD, isTy,   List.getElem?_cons_zero, List.getElem?_cons_succ, List.getElem?_nil, List.set_cons_zero, List.set_cons_succ, List.set_nil, List.length_cons, List.length_nil, List.mapIdx_cons, List.mapIdx_nil, List.map_cons, List.map_nil, List.replicate_succ, List.replicate_zero, List.cons_append, List.nil_append, List.append_nil, List.foldl_cons, List.foldl_nil, List.filterMap_cons, List.filterMap_nil, Option.map_some, Option.map_none, Option.bind_some, Option.bind_none, Bool.not_true, Bool.not_false, Bool.and_true, Bool.true_and, Bool.or_true, Bool.and_self, if_true, if_false,   eqA_int, neA_int, eqA_str, neA_str, ltD_int, leD_int, gtD_int, geD_int, addD_int, subD_int, negD_int, absC_int, intC_int, maxC_int, minC_int, lenC_lst, lenC_tup, lenC_scr, Int.cast_ofNat_Int, Int.natCast_zero, Int.natCast_one,   ↓reduceIte, Nat.reduceAdd, Nat.reduceSub, Nat.reduceMul, Nat.reduceLT, Nat.reduceLeDiff, Nat.reduceBEq, Nat.reduceBneDiff, Nat.reduceEqDiff, Nat.reducePow, Int.reduceLT, Int.reduceLE, Int.reduceEq, Int.reduceNe, Int.reduceAdd, Int.reduceSub, Int.reduceMul, Int.reduceNeg, Int.reducePow, Int.reduceToNat, decide_true, decide_false, decide_eq_true_eq, Bool.false_eq_true, List.contains_nil, List.contains_cons, Bool.or_false, Bool.or_self, eq_self, and_self, and_true, true_and, m1, m2, forS_eq, hit, el, hl, ho, m3, f, small, c1, c2, pw]
  · skip
    by_cases c1 : 17 * t + 3 < 0
    · refine ⟨.lst [.int (17 * t + 3).natAbs, .int ((m' * 7 + (17 * t + 3)) % 2147483543), .int 0], ?_, _, _, _, rfl, by omega, by omega⟩
      simp only [G__law_spring, g__law_spring, g__law_spring_1, g__law_spring_2, g__law_spring_3, g__law_spring_4, seqS_eq, seqS_eq, nxS, bkS, ctS, nxt_nx, nxt_rt, nxt_bk, nxt_ct, ifS_eq, ifE_eq, brR_t, brR_f, brR_dec, anT_eq, orT_eq, anE_eq, orE_eq, tst_eq, isB_bl, ↓R.bind_bd, R.bd_ok, R.of_some, noT, blE, vr, cst, op1, op2, setS, setR, nxO, asgS, tupG, cnsG, nilG, nmG, subGO, subG, subS, getM, ixM, putO, cnsA, nilA, dTup, dLst, frz, retS, retM, setM, exS, mutS, appO, opC, callE, callM, callG_eq, cnsB, nilB, slB, kwB, ioM, toArgs, okA, slsA, nodN, argG_some, goG_ok, asE, asM, putA, newM, putM, parS, par3S, frzS, frzAt, bindO, endR_rt, endR_nx, endG, FL.collect, bodyG_eq, rho0, toS, wipeR, FL.pick, tru, truD, chn, lenM, isiD, typD, isTy,   List.getElem?_cons_zero, List.getElem?_cons_succ, List.getElem?_nil, List.set_cons_zero, List.set_cons_succ, List.set_nil, List.length_cons, List.length_nil, List.mapIdx_cons, List.mapIdx_nil, List.map_cons, List.map_nil, List.replicate_succ, List.replicate_zero, List.cons_append, List.nil_append, List.append_nil, List.foldl_cons, List.foldl_nil, List.filterMap_cons, List.filterMap_nil, Option.map_some, Option.map_none, Option.bind_some, Option.bind_none, Bool.not_true, Bool.not_false, Bool.and_true, Bool.true_and, Bool.or_true, Bool.and_self, if_true, if_false,   eqA_int, neA_int, eqA_str, neA_str, ltD_int, leD_int, gtD_int, geD_int, addD_int, subD_int, negD_int, absC_int, intC_int, maxC_int, minC_int, lenC_lst, lenC_tup, lenC_scr, Int.cast_ofNat_Int, Int.natCast_zero, Int.natCast_one,   ↓reduceIte, Nat.reduceAdd, Nat.reduceSub, Nat.reduceMul, Nat.reduceLT, Nat.reduceLeDiff, Nat.reduceBEq, Nat.reduceBneDiff, Nat.reduceEqDiff, Nat.reducePow, Int.reduceLT, Int.reduceLE, Int.reduceEq, Int.reduceNe, Int.reduceAdd, Int.reduceSub, Int.reduceMul, Int.reduceNeg, Int.reducePow, Int.reduceToNat, decide_true, decide_false, decide_eq_true_eq, Bool.false_eq_true, List.contains_nil, List.contains_cons, Bool.or_false, Bool.or_self, eq_self, and_self, and_true, true_and, m1, m2, forS_eq, hit, el, hl, m3, f, small, c1]
    · by_cases c2 : 1000000000000000000 ≤ 17 * t + 3
      · refine ⟨.lst [.int (17 * t + 3).natAbs, .int ((m' * 7 + (17 * t + 3)) % 2147483543), .int 0], ?_, _, _, _, rfl, by omega, by omega⟩
        simp only [G__law_spring, g__law_spring, g__law_spring_1, g__law_spring_2, g__law_spring_3, g__law_spring_4, seqS_eq, seqS_eq, nxS, bkS, ctS, nxt_nx, nxt_rt, nxt_bk, nxt_ct, ifS_eq, ifE_eq, brR_t, brR_f, brR_dec, anT_eq, orT_eq, anE_eq, orE_eq, tst_eq, isB_bl, ↓R.bind_bd, R.bd_ok, R.of_some, noT, blE, vr, cst, op1, op2, setS, setR, nxO, asgS, tupG, cnsG, nilG, nmG, subGO, subG, subS, getM, ixM, putO, cnsA, nilA, dTup, dLst, frz, retS, retM, setM, exS, mutS, appO, opC, callE, callM, callG_eq, cnsB, nilB, slB, kwB, ioM, toArgs, okA, slsA, nodN, argG_some, goG_ok, asE, asM, putA, newM, putM, parS, par3S, frzS, frzAt, bindO, endR_rt, endR_nx, endG, FL.collect, bodyG_eq, rho0, toS, wipeR, FL.pick, tru, truD, chn, lenM, isiD, typD, isTy,   List.getElem?_cons_zero, List.getElem?_cons_succ, List.getElem?_nil, List.set_cons_zero, List.set_cons_succ, List.set_nil, List.length_cons, List.length_nil, List.mapIdx_cons, List.mapIdx_nil, List.map_cons, List.map_nil, List.replicate_succ, List.replicate_zero, List.cons_append, List.nil_append, List.append_nil, List.foldl_cons, List.foldl_nil, List.filterMap_cons, List.filterMap_nil, Option.map_some, Option.map_none, Option.bind_some, Option.bind_none, Bool.not_true, Bool.not_false, Bool.and_true, Bool.true_and, Bool.or_true, Bool.and_self, if_true, if_false,   eqA_int, neA_int, eqA_str, neA_str, ltD_int, leD_int, gtD_int, geD_int, addD_int, subD_int, negD_int, absC_int, intC_int, maxC_int, minC_int, lenC_lst, lenC_tup, lenC_scr, Int.cast_ofNat_Int, Int.natCast_zero, Int.natCast_one,   ↓reduceIte, Nat.reduceAdd, Nat.reduceSub, Nat.reduceMul, Nat.reduceLT, Nat.reduceLeDiff, Nat.reduceBEq, Nat.reduceBneDiff, Nat.reduceEqDiff, Nat.reducePow, Int.reduceLT, Int.reduceLE, Int.reduceEq, Int.reduceNe, Int.reduceAdd, Int.reduceSub, Int.reduceMul, Int.reduceNeg, Int.reducePow, Int.reduceToNat, decide_true, decide_false, decide_eq_true_eq, Bool.false_eq_true, List.contains_nil, List.contains_cons, Bool.or_false, Bool.or_self, eq_self, and_self, and_true, true_and, m1, m2, forS_eq, hit, el, hl, m3, f, small, c1, c2, pw]
      · refine ⟨.lst [.int 0, .int ((m' * 7 + (17 * t + 3)) % 2147483543), .int 0], ?_, _, _, _, rfl, by omega, by omega⟩
        simp only [G__law_spring, g__law_spring, g__law_spring_1, g__law_spring_2, g__law_spring_3, g__law_spring_4, seqS_eq, seqS_eq, nxS, bkS, ctS, nxt_nx, nxt_rt, nxt_bk, nxt_ct, ifS_eq, ifE_eq, brR_t, brR_f, brR_dec, anT_eq, orT_eq, anE_eq, orE_eq, tst_eq, isB_bl, ↓R.bind_bd, R.bd_ok, R.of_some, noT, blE, vr, cst, op1, op2, setS, setR, nxO, asgS, tupG, cnsG, nilG, nmG, subGO, subG, subS, getM, ixM, putO, cnsA, nilA, dTup, dLst, frz, retS, retM, setM, exS, mutS, appO, opC, callE, callM, callG_eq, cnsB, nilB, slB, kwB, ioM, toArgs, okA, slsA, nodN, argG_some, goG_ok, asE, asM, putA, newM, putM, parS, par3S, frzS, frzAt, bindO, endR_rt, endR_nx, endG, FL.collect, bodyG_eq, rho0, toS, wipeR, FL.pick, tru, truD, chn, lenM, isiD, typD, isTy,   List.getElem?_cons_zero, List.getElem?_cons_succ, List.getElem?_nil, List.set_cons_zero, List.set_cons_succ, List.set_nil, List.length_cons, List.length_nil, List.mapIdx_cons, List.mapIdx_nil, List.map_cons, List.map_nil, List.replicate_succ, List.replicate_zero, List.cons_append, List.nil_append, List.append_nil, List.foldl_cons, List.foldl_nil, List.filterMap_cons, List.filterMap_nil, Option.map_some, Option.map_none, Option.bind_some, Option.bind_none, Bool.not_true, Bool.not_false, Bool.and_true, Bool.true_and, Bool.or_true, Bool.and_self, if_true, if_false,   eqA_int, neA_int, eqA_str, neA_str, ltD_int, leD_int, gtD_int, geD_int, addD_int, subD_int, negD_int, absC_int, intC_int, maxC_int, minC_int, lenC_lst, lenC_tup, lenC_scr, Int.cast_ofNat_Int, Int.natCast_zero, Int.natCast_one,   ↓reduceIte, Nat.reduceAdd, Nat.reduceSub, Nat.reduceMul, Nat.reduceLT, Nat.reduceLeDiff, Nat.reduceBEq, Nat.reduceBneDiff, Nat.reduceEqDiff, Nat.reducePow, Int.reduceLT, Int.reduceLE, Int.reduceEq, Int.reduceNe, Int.reduceAdd, Int.reduceSub, Int.reduceMul, Int.reduceNeg, Int.reducePow, Int.reduceToNat, decide_true, decide_false, decide_eq_true_eq, Bool.false_eq_true, List.contains_nil, List.contains_cons, Bool.or_false, Bool.or_self, eq_self, and_self, and_true, true_and, m1, m2, forS_eq, hit, el, hl, m3, f, small, c1, c2, pw]

theorem right_ok {n : Nat} {s : M} (hs : Sp n s) (hn : n ≤ 1000) : ∃ s' : M, G__law_right [.io s] = .ok (.v (.bl true)) [s'] := by
  have r : rng1 (cnsA (cst (.int 14)) nilA) [.io s, .no, .no, .no, .no, .no, .no] = .ok (rangeL 0 14) [.io s, .no, .no, .no, .no, .no, .no] := rfl
  have pw : powD (.int 10) (.int 30) = some (.int 1000000000000000000000000000000) := rfl
  have mx : ∀ b : Bool, mulD (.lst [.bl b]) (.int 2) = some (.lst [.bl b, .bl b]) := fun _ => rfl
  unfold G__law_right g__law_right
  rw [bodyG_eq, seqS_eq, forS_eq, show rho0 7 [FL.Arg.io s] = [.io s, .no, .no, .no, .no, .no, .no] from rfl, r, R.ok_bind]
  have key : ∀ b : SF, (∀ (i : Nat) (s : M) (t1 t2 t3 t4 t5 : Slot), Sp (n + 20 * i) s → i < 14 → ∃ (s' : M) (u1 u2 u3 u4 u5 u6 : Slot), b [.io s, t1, t2, t3, t4, t5, .no] = .ok .nx [.io s', u1, u2, u3, u4, u5, u6] ∧ Sp (n + 20 * (i + 1)) s') →
      ∃ s' u1 u2 u3 u4 u5, forL [6] (nmG 1) b (rangeL 0 14) [.io s, .no, .no, .no, .no, .no, .no] = .ok .nx [.io s', u1, u2, u3, u4, u5, .no] := fun b hb => by
    obtain ⟨ρ', e, s', u1, u2, u3, u4, u5, rfl, _⟩ := forL_nx (ks := [6]) (g := nmG 1) (b := b) (fun i ρ => ∃ (s : M) (u1 u2 u3 u4 u5 : Slot), ρ = [.io s, u1, u2, u3, u4, u5, .no] ∧ Sp (n + 20 * i) s) (rangeL 0 14) [.io s, .no, .no, .no, .no, .no, .no]
      ⟨s, .no, .no, .no, .no, .no, rfl, hs.mono (by omega)⟩ (by
        rintro i d ρ ⟨s, u1, u2, u3, u4, u5, rfl, h⟩ hd
        obtain ⟨hi, rfl⟩ := rangeL_get _ _ _ _ hd
        obtain ⟨s', v1, v2, v3, v4, v5, v6, e, h'⟩ := hb i s (.val (.int (0 + i))) u2 u3 u4 u5 h hi
        exact ⟨_, by simp only [seqS_eq, nxS, bkS, ctS, nxt_nx, nxt_rt, nxt_bk, nxt_ct, ifS_eq, ifE_eq, brR_t, brR_f, brR_dec, anT_eq, orT_eq, anE_eq, orE_eq, tst_eq, isB_bl, ↓R.bind_bd, R.bd_ok, R.of_some, noT, blE, vr, cst, op1, op2, setS, setR, nxO, asgS, tupG, cnsG, nilG, nmG, subGO, subG, subS, getM, ixM, putO, cnsA, nilA, dTup, dLst, frz, retS, retM, setM, exS, mutS, appO, opC, callE, callM, callG_eq, cnsB, nilB, slB, kwB, ioM, toArgs, okA, slsA, nodN, argG_some, goG_ok, asE, asM, putA, newM, putM, parS, par3S, frzS, frzAt, bindO, endR_rt, endR_nx, endG, FL.collect, bodyG_eq, rho0, toS, wipeR, FL.pick, tru, truD, chn, lenM, isiD, typD, isTy,   List.getElem?_cons_zero, List.getElem?_cons_succ, List.getElem?_nil, List.set_cons_zero, List.set_cons_succ, List.set_nil, List.length_cons, List.length_nil, List.mapIdx_cons, List.mapIdx_nil, List.map_cons, List.map_nil, List.replicate_succ, List.replicate_zero, List.cons_append, List.nil_append, List.append_nil, List.foldl_cons, List.foldl_nil, List.filterMap_cons, List.filterMap_nil, Option.map_some, Option.map_none, Option.bind_some, Option.bind_none, Bool.not_true, Bool.not_false, Bool.and_true, Bool.true_and, Bool.or_true, Bool.and_self, if_true, if_false,   eqA_int, neA_int, eqA_str, neA_str, ltD_int, leD_int, gtD_int, geD_int, addD_int, subD_int, negD_int, absC_int, intC_int, maxC_int, minC_int, lenC_lst, lenC_tup, lenC_scr, Int.cast_ofNat_Int, Int.natCast_zero, Int.natCast_one,   ↓reduceIte, Nat.reduceAdd, Nat.reduceSub, Nat.reduceMul, Nat.reduceLT, Nat.reduceLeDiff, Nat.reduceBEq, Nat.reduceBneDiff, Nat.reduceEqDiff, Nat.reducePow, Int.reduceLT, Int.reduceLE, Int.reduceEq, Int.reduceNe, Int.reduceAdd, Int.reduceSub, Int.reduceMul, Int.reduceNeg, Int.reducePow, Int.reduceToNat, decide_true, decide_false, decide_eq_true_eq, Bool.false_eq_true, List.contains_nil, List.contains_cons, Bool.or_false, Bool.or_self, eq_self, and_self, and_true, true_and], _, e, s', v1, v2, v3, v4, v5, by simp only [seqS_eq, nxS, bkS, ctS, nxt_nx, nxt_rt, nxt_bk, nxt_ct, ifS_eq, ifE_eq, brR_t, brR_f, brR_dec, anT_eq, orT_eq, anE_eq, orE_eq, tst_eq, isB_bl, ↓R.bind_bd, R.bd_ok, R.of_some, noT, blE, vr, cst, op1, op2, setS, setR, nxO, asgS, tupG, cnsG, nilG, nmG, subGO, subG, subS, getM, ixM, putO, cnsA, nilA, dTup, dLst, frz, retS, retM, setM, exS, mutS, appO, opC, callE, callM, callG_eq, cnsB, nilB, slB, kwB, ioM, toArgs, okA, slsA, nodN, argG_some, goG_ok, asE, asM, putA, newM, putM, parS, par3S, frzS, frzAt, bindO, endR_rt, endR_nx, endG, FL.collect, bodyG_eq, rho0, toS, wipeR, FL.pick, tru, truD, chn, lenM, isiD, typD, isTy,   List.getElem?_cons_zero, List.getElem?_cons_succ, List.getElem?_nil, List.set_cons_zero, List.set_cons_succ, List.set_nil, List.length_cons, List.length_nil, List.mapIdx_cons, List.mapIdx_nil, List.map_cons, List.map_nil, List.replicate_succ, List.replicate_zero, List.cons_append, List.nil_append, List.append_nil, List.foldl_cons, List.foldl_nil, List.filterMap_cons, List.filterMap_nil, Option.map_some, Option.map_none, Option.bind_some, Option.bind_none, Bool.not_true, Bool.not_false, Bool.and_true, Bool.true_and, Bool.or_true, Bool.and_self, if_true, if_false,   eqA_int, neA_int, eqA_str, neA_str, ltD_int, leD_int, gtD_int, geD_int, addD_int, subD_int, negD_int, absC_int, intC_int, maxC_int, minC_int, lenC_lst, lenC_tup, lenC_scr, Int.cast_ofNat_Int, Int.natCast_zero, Int.natCast_one,   ↓reduceIte, Nat.reduceAdd, Nat.reduceSub, Nat.reduceMul, Nat.reduceLT, Nat.reduceLeDiff, Nat.reduceBEq, Nat.reduceBneDiff, Nat.reduceEqDiff, Nat.reducePow, Int.reduceLT, Int.reduceLE, Int.reduceEq, Int.reduceNe, Int.reduceAdd, Int.reduceSub, Int.reduceMul, Int.reduceNeg, Int.reducePow, Int.reduceToNat, decide_true, decide_false, decide_eq_true_eq, Bool.false_eq_true, List.contains_nil, List.contains_cons, Bool.or_false, Bool.or_self, eq_self, and_self, and_true, true_and], h'⟩)
    exact ⟨s', u1, u2, u3, u4, u5, e⟩
  obtain ⟨s', u1, u2, u3, u4, u5, e⟩ := key b__law_right_1 (fun i s t1 t2 t3 t4 t5 hs hi => by
    obtain ⟨p, q, s1, e1, g1, h1⟩ := some_pair_ok hs (m := 40) (by decide) (by decide) (by omega)
    obtain ⟨d2, s2, e2, _, _, h2⟩ := drip_ok h1 (k := 6) (by decide) (by decide) (by omega)
    have two : ∃ (p' q' : Int) (s3 : M), ((0 < d2 ∧ G__law_mate [.io s2, .val (D2 p q)] = .ok (.v (D2 p' q')) [s3]) ∨ (¬ 0 < d2 ∧ G__law_some_pair [.io s2, .val (.int 40)] = .ok (.v (D2 p' q')) [s3])) ∧ SomeP 40 p' q' ∧ Sp (n + 20 * i + 7) s3 := by
      by_cases c : 0 < d2
      · obtain ⟨q', s3, e3, g3, h3⟩ := mate_ok h2 g1 (by decide) (by omega)
        exact ⟨p, q', s3, .inl ⟨c, e3⟩, g3, h3.mono (by omega)⟩
      · obtain ⟨p', q', s3, e3, g3, h3⟩ := some_pair_ok h2 (m := 40) (by decide) (by decide) (by omega)
        exact ⟨p', q', s3, .inr ⟨c, e3⟩, g3, h3.mono (by omega)⟩
    obtain ⟨p', q', s3, e23, g3, h3⟩ := two
    obtain ⟨d4, s4, e4, _, _, h4⟩ := drip_ok h3 (k := 5) (by decide) (by decide) (by omega)
    by_cases c : d4 = 0
    · subst c
      obtain ⟨d5, s5, e5, l5, l5', h5⟩ := drip_ok h4 (k := 2) (by decide) (by decide) (by omega)
      have m5 : mulD (.int 57) (.int d5) = some (.int (57 * d5)) := mulD_l (by decide)
      have hp : 1000000000000000000000000000000 + 57 * d5 = 1000000000000000000000000000000 ∨ 1000000000000000000000000000000 + 57 * d5 = 1000000000000000000000000000057 := by omega
      generalize hP : 1000000000000000000000000000000 + 57 * d5 = P at hp
      obtain ⟨d6, s6, m6, e6, h6⟩ := any_ok h5 (xs := [D2 P 1, D2 P (P - 1)]) (by simp) (by simp) (by omega)
      have z : ∃ q6, d6 = D2 P q6 ∧ (q6 = 1 ∨ q6 = P - 1) := by
        rcases List.mem_cons.mp m6 with rfl | m6
        · exact ⟨1, rfl, .inl rfl⟩
        · rw [List.mem_singleton.mp m6]
          exact ⟨P - 1, rfl, .inr rfl⟩
      obtain ⟨q6, rfl, hq6⟩ := z
      obtain ⟨x1, x, s7, s8, e7, e8, hx, h8⟩ := tail_ok h6 (by omega)
      obtain ⟨v1, v2, v3⟩ := big_val hp (q := P - 1) (.inr rfl)
      obtain ⟨w1, w2, w3⟩ := big_val hp hq6
      have ea := agree hx v1 w1 v2 v3 w3
      have ed := due_ok (p' := P) hx v2 v3 w3
      generalize dueB P (P - 1) P q6 x = b at ea ed
      refine ⟨s8, t1, .val (D2 P (P - 1)), .val (D2 P q6), .val (.int P), .val x, .val (.lst [.bl b, .bl b]), ?_, h8.mono (by omega)⟩
      rcases e23 with ⟨c2, e3⟩ | ⟨c2, e3⟩ <;> simp only [b__law_right_1, b__law_right_1_1, b__law_right_1_2, b__law_right_1_3, b__law_right_1_4, b__law_right_1_5, b__law_right_1_6, seqS_eq, nxS, bkS, ctS, nxt_nx, nxt_rt, nxt_bk, nxt_ct, ifS_eq, ifE_eq, brR_t, brR_f, brR_dec, anT_eq, orT_eq, anE_eq, orE_eq, tst_eq, isB_bl, ↓R.bind_bd, R.bd_ok, R.of_some, noT, blE, vr, cst, op1, op2, setS, setR, nxO, asgS, tupG, cnsG, nilG, nmG, subGO, subG, subS, getM, ixM, putO, cnsA, nilA, dTup, dLst, frz, retS, retM, setM, exS, mutS, appO, opC, callE, callM, callG_eq, cnsB, nilB, slB, kwB, ioM, toArgs, okA, slsA, nodN, argG_some, goG_ok, asE, asM, putA, newM, putM, parS, par3S, frzS, frzAt, bindO, endR_rt, endR_nx, endG, FL.collect, bodyG_eq, rho0, toS, wipeR, FL.pick, tru, truD, chn, lenM, isiD, typD, isTy,   List.getElem?_cons_zero, List.getElem?_cons_succ, List.getElem?_nil, List.set_cons_zero, List.set_cons_succ, List.set_nil, List.length_cons, List.length_nil, List.mapIdx_cons, List.mapIdx_nil, List.map_cons, List.map_nil, List.replicate_succ, List.replicate_zero, List.cons_append, List.nil_append, List.append_nil, List.foldl_cons, List.foldl_nil, List.filterMap_cons, List.filterMap_nil, Option.map_some, Option.map_none, Option.bind_some, Option.bind_none, Bool.not_true, Bool.not_false, Bool.and_true, Bool.true_and, Bool.or_true, Bool.and_self, if_true, if_false,   eqA_int, neA_int, eqA_str, neA_str, ltD_int, leD_int, gtD_int, geD_int, addD_int, subD_int, negD_int, absC_int, intC_int, maxC_int, minC_int, lenC_lst, lenC_tup, lenC_scr, Int.cast_ofNat_Int, Int.natCast_zero, Int.natCast_one,   ↓reduceIte, Nat.reduceAdd, Nat.reduceSub, Nat.reduceMul, Nat.reduceLT, Nat.reduceLeDiff, Nat.reduceBEq, Nat.reduceBneDiff, Nat.reduceEqDiff, Nat.reducePow, Int.reduceLT, Int.reduceLE, Int.reduceEq, Int.reduceNe, Int.reduceAdd, Int.reduceSub, Int.reduceMul, Int.reduceNeg, Int.reducePow, Int.reduceToNat, decide_true, decide_false, decide_eq_true_eq, Bool.false_eq_true, List.contains_nil, List.contains_cons, Bool.or_false, Bool.or_self, eq_self, and_self, and_true, true_and, e1, e2, c2, e3, e4, pw, e5, m5, hP, e6, e7, e8, ea, ed, small, mx, rep2]
    · obtain ⟨x1, x, s7, s8, e7, e8, hx, h8⟩ := tail_ok h4 (by omega)
      obtain ⟨v1, v2, v3⟩ := somep_val g1 (by decide)
      obtain ⟨w1, w2, w3⟩ := somep_val g3 (by decide)
      have ea := agree hx v1 w1 v2 v3 w3
      have ed := due_ok (p' := p') hx v2 v3 w3
      generalize dueB p q p' q' x = b at ea ed
      refine ⟨s8, t1, .val (D2 p q), .val (D2 p' q'), t4, .val x, .val (.lst [.bl b, .bl b]), ?_, h8.mono (by omega)⟩
      rcases e23 with ⟨c2, e3⟩ | ⟨c2, e3⟩ <;> simp only [b__law_right_1, b__law_right_1_1, b__law_right_1_2, b__law_right_1_3, b__law_right_1_4, b__law_right_1_5, b__law_right_1_6, seqS_eq, nxS, bkS, ctS, nxt_nx, nxt_rt, nxt_bk, nxt_ct, ifS_eq, ifE_eq, brR_t, brR_f, brR_dec, anT_eq, orT_eq, anE_eq, orE_eq, tst_eq, isB_bl, ↓R.bind_bd, R.bd_ok, R.of_some, noT, blE, vr, cst, op1, op2, setS, setR, nxO, asgS, tupG, cnsG, nilG, nmG, subGO, subG, subS, getM, ixM, putO, cnsA, nilA, dTup, dLst, frz, retS, retM, setM, exS, mutS, appO, opC, callE, callM, callG_eq, cnsB, nilB, slB, kwB, ioM, toArgs, okA, slsA, nodN, argG_some, goG_ok, asE, asM, putA, newM, putM, parS, par3S, frzS, frzAt, bindO, endR_rt, endR_nx, endG, FL.collect, bodyG_eq, rho0, toS, wipeR, FL.pick, tru, truD, chn, lenM, isiD, typD, isTy,   List.getElem?_cons_zero, List.getElem?_cons_succ, List.getElem?_nil, List.set_cons_zero, List.set_cons_succ, List.set_nil, List.length_cons, List.length_nil, List.mapIdx_cons, List.mapIdx_nil, List.map_cons, List.map_nil, List.replicate_succ, List.replicate_zero, List.cons_append, List.nil_append, List.append_nil, List.foldl_cons, List.foldl_nil, List.filterMap_cons, List.filterMap_nil, Option.map_some, Option.map_none, Option.bind_some, Option.bind_none, Bool.not_true, Bool.not_false, Bool.and_true, Bool.true_and, Bool.or_true, Bool.and_self, if_true, if_false,   eqA_int, neA_int, eqA_str, neA_str, ltD_int, leD_int, gtD_int, geD_int, addD_int, subD_int, negD_int, absC_int, intC_int, maxC_int, minC_int, lenC_lst, lenC_tup, lenC_scr, Int.cast_ofNat_Int, Int.natCast_zero, Int.natCast_one,   ↓reduceIte, Nat.reduceAdd, Nat.reduceSub, Nat.reduceMul, Nat.reduceLT, Nat.reduceLeDiff, Nat.reduceBEq, Nat.reduceBneDiff, Nat.reduceEqDiff, Nat.reducePow, Int.reduceLT, Int.reduceLE, Int.reduceEq, Int.reduceNe, Int.reduceAdd, Int.reduceSub, Int.reduceMul, Int.reduceNeg, Int.reducePow, Int.reduceToNat, decide_true, decide_false, decide_eq_true_eq, Bool.false_eq_true, List.contains_nil, List.contains_cons, Bool.or_false, Bool.or_self, eq_self, and_self, and_true, true_and, e1, e2, c2, e3, e4, c, e7, e8, ea, ed, small, mx, rep2])
  exact ⟨s', by simp only [e, seqS_eq, nxS, bkS, ctS, nxt_nx, nxt_rt, nxt_bk, nxt_ct, ifS_eq, ifE_eq, brR_t, brR_f, brR_dec, anT_eq, orT_eq, anE_eq, orE_eq, tst_eq, isB_bl, ↓R.bind_bd, R.bd_ok, R.of_some, noT, blE, vr, cst, op1, op2, setS, setR, nxO, asgS, tupG, cnsG, nilG, nmG, subGO, subG, subS, getM, ixM, putO, cnsA, nilA, dTup, dLst, frz, retS, retM, setM, exS, mutS, appO, opC, callE, callM, callG_eq, cnsB, nilB, slB, kwB, ioM, toArgs, okA, slsA, nodN, argG_some, goG_ok, asE, asM, putA, newM, putM, parS, par3S, frzS, frzAt, bindO, endR_rt, endR_nx, endG, FL.collect, bodyG_eq, rho0, toS, wipeR, FL.pick, tru, truD, chn, lenM, isiD, typD, isTy,   List.getElem?_cons_zero, List.getElem?_cons_succ, List.getElem?_nil, List.set_cons_zero, List.set_cons_succ, List.set_nil, List.length_cons, List.length_nil, List.mapIdx_cons, List.mapIdx_nil, List.map_cons, List.map_nil, List.replicate_succ, List.replicate_zero, List.cons_append, List.nil_append, List.append_nil, List.foldl_cons, List.foldl_nil, List.filterMap_cons, List.filterMap_nil, Option.map_some, Option.map_none, Option.bind_some, Option.bind_none, Bool.not_true, Bool.not_false, Bool.and_true, Bool.true_and, Bool.or_true, Bool.and_self, if_true, if_false,   eqA_int, neA_int, eqA_str, neA_str, ltD_int, leD_int, gtD_int, geD_int, addD_int, subD_int, negD_int, absC_int, intC_int, maxC_int, minC_int, lenC_lst, lenC_tup, lenC_scr, Int.cast_ofNat_Int, Int.natCast_zero, Int.natCast_one,   ↓reduceIte, Nat.reduceAdd, Nat.reduceSub, Nat.reduceMul, Nat.reduceLT, Nat.reduceLeDiff, Nat.reduceBEq, Nat.reduceBneDiff, Nat.reduceEqDiff, Nat.reducePow, Int.reduceLT, Int.reduceLE, Int.reduceEq, Int.reduceNe, Int.reduceAdd, Int.reduceSub, Int.reduceMul, Int.reduceNeg, Int.reducePow, Int.reduceToNat, decide_true, decide_false, decide_eq_true_eq, Bool.false_eq_true, List.contains_nil, List.contains_cons, Bool.or_false, Bool.or_self, eq_self, and_self, and_true, true_and]⟩

theorem all_true : ∀ ys : List D, (∀ y ∈ ys, y = D.bl true) → allC [.lst ys] = some (.bl true) := by
  have key : ∀ ys : List D, (∀ y ∈ ys, y = D.bl true) → ∃ bs, bools ys = some bs ∧ bs.all id = true := by
    intro ys
    induction ys with
    | nil => exact fun _ => ⟨[], rfl, rfl⟩
    | cons y ys ih =>
      intro h
      obtain ⟨bs, e, hb⟩ := ih fun z hz => h z (List.mem_cons_of_mem _ hz)
      have hy := h y List.mem_cons_self
      subst hy
      refine ⟨true :: bs, ?_, by simpa using hb⟩
      show (bools ys).map (true :: ·) = _
      rw [e]
      rfl
  intro ys h
  obtain ⟨bs, e, hb⟩ := key ys h
  show (bools ys).map (fun bs => D.bl (bs.all id)) = _
  rw [e]
  show some (D.bl (bs.all id)) = _
  rw [hb]
theorem law_true (ns : List Int) (hl : ns.length ≤ 63) : G_law [.val (.scr ns)] = .ok (.v (.bl true)) [] := by
  have r : rng1 (cnsA (opC maxC (cnsA (cst (.int 2)) (cnsA (opC minC (cnsA (opC lenC (cnsA (vr 0) nilA)) (cnsA (cst (.int 5)) nilA))) nilA))) nilA) [.val (.scr ns), .no] = .ok (rangeL 0 (max 2 (min (ns.length : Int) 5)).toNat) [.val (.scr ns), .no] := by
    have g : rgOk (max 2 (min (ns.length : Int) 5)) = true := rgOk_of (by omega) (by omega)
    simp only [rng1, seqS_eq, nxS, bkS, ctS, nxt_nx, nxt_rt, nxt_bk, nxt_ct, ifS_eq, ifE_eq, brR_t, brR_f, brR_dec, anT_eq, orT_eq, anE_eq, orE_eq, tst_eq, isB_bl, ↓R.bind_bd, R.bd_ok, R.of_some, noT, blE, vr, cst, op1, op2, setS, setR, nxO, asgS, tupG, cnsG, nilG, nmG, subGO, subG, subS, getM, ixM, putO, cnsA, nilA, dTup, dLst, frz, retS, retM, setM, exS, mutS, appO, opC, callE, callM, callG_eq, cnsB, nilB, slB, kwB, ioM, toArgs, okA, slsA, nodN, argG_some, goG_ok, asE, asM, putA, newM, putM, parS, par3S, frzS, frzAt, bindO, endR_rt, endR_nx, endG, FL.collect, bodyG_eq, rho0, toS, wipeR, FL.pick, tru, truD, chn, lenM, isiD, typD, isTy,   List.getElem?_cons_zero, List.getElem?_cons_succ, List.getElem?_nil, List.set_cons_zero, List.set_cons_succ, List.set_nil, List.length_cons, List.length_nil, List.mapIdx_cons, List.mapIdx_nil, List.map_cons, List.map_nil, List.replicate_succ, List.replicate_zero, List.cons_append, List.nil_append, List.append_nil, List.foldl_cons, List.foldl_nil, List.filterMap_cons, List.filterMap_nil, Option.map_some, Option.map_none, Option.bind_some, Option.bind_none, Bool.not_true, Bool.not_false, Bool.and_true, Bool.true_and, Bool.or_true, Bool.and_self, if_true, if_false,   eqA_int, neA_int, eqA_str, neA_str, ltD_int, leD_int, gtD_int, geD_int, addD_int, subD_int, negD_int, absC_int, intC_int, maxC_int, minC_int, lenC_lst, lenC_tup, lenC_scr, Int.cast_ofNat_Int, Int.natCast_zero, Int.natCast_one,   ↓reduceIte, Nat.reduceAdd, Nat.reduceSub, Nat.reduceMul, Nat.reduceLT, Nat.reduceLeDiff, Nat.reduceBEq, Nat.reduceBneDiff, Nat.reduceEqDiff, Nat.reducePow, Int.reduceLT, Int.reduceLE, Int.reduceEq, Int.reduceNe, Int.reduceAdd, Int.reduceSub, Int.reduceMul, Int.reduceNeg, Int.reducePow, Int.reduceToNat, decide_true, decide_false, decide_eq_true_eq, Bool.false_eq_true, List.contains_nil, List.contains_cons, Bool.or_false, Bool.or_self, eq_self, and_self, and_true, true_and, g]
  obtain ⟨ys, ρ', e, hy, rfl⟩ := cmpL_of (ks := [1]) (g := nmG 1) (t := yesT) (f := callFE G__law_right (callM 2 G__law_spring (cnsB (vr 0) (cnsB (vr 1) nilB)))) (fun _ ρ => ρ = [.val (.scr ns), .no]) (fun _ y => y = .bl true)
    (rangeL 0 (max 2 (min (ns.length : Int) 5)).toNat) 0 [] [.val (.scr ns), .no] (by rw [rangeL_length, List.length_nil]; omega) rfl (fun i d ρ h hd => by
      subst h
      obtain ⟨_, rfl⟩ := rangeL_get _ _ _ _ hd
      obtain ⟨s, es, hs⟩ := spring_ok ns (0 + i) (by omega)
      obtain ⟨s', er⟩ := right_ok hs (by omega)
      refine ⟨[.val (.scr ns), .val (.int (0 + i))], by simp only [seqS_eq, nxS, bkS, ctS, nxt_nx, nxt_rt, nxt_bk, nxt_ct, ifS_eq, ifE_eq, brR_t, brR_f, brR_dec, anT_eq, orT_eq, anE_eq, orE_eq, tst_eq, isB_bl, ↓R.bind_bd, R.bd_ok, R.of_some, noT, blE, vr, cst, op1, op2, setS, setR, nxO, asgS, tupG, cnsG, nilG, nmG, subGO, subG, subS, getM, ixM, putO, cnsA, nilA, dTup, dLst, frz, retS, retM, setM, exS, mutS, appO, opC, callE, callM, callG_eq, cnsB, nilB, slB, kwB, ioM, toArgs, okA, slsA, nodN, argG_some, goG_ok, asE, asM, putA, newM, putM, parS, par3S, frzS, frzAt, bindO, endR_rt, endR_nx, endG, FL.collect, bodyG_eq, rho0, toS, wipeR, FL.pick, tru, truD, chn, lenM, isiD, typD, isTy,   List.getElem?_cons_zero, List.getElem?_cons_succ, List.getElem?_nil, List.set_cons_zero, List.set_cons_succ, List.set_nil, List.length_cons, List.length_nil, List.mapIdx_cons, List.mapIdx_nil, List.map_cons, List.map_nil, List.replicate_succ, List.replicate_zero, List.cons_append, List.nil_append, List.append_nil, List.foldl_cons, List.foldl_nil, List.filterMap_cons, List.filterMap_nil, Option.map_some, Option.map_none, Option.bind_some, Option.bind_none, Bool.not_true, Bool.not_false, Bool.and_true, Bool.true_and, Bool.or_true, Bool.and_self, if_true, if_false,   eqA_int, neA_int, eqA_str, neA_str, ltD_int, leD_int, gtD_int, geD_int, addD_int, subD_int, negD_int, absC_int, intC_int, maxC_int, minC_int, lenC_lst, lenC_tup, lenC_scr, Int.cast_ofNat_Int, Int.natCast_zero, Int.natCast_one,   ↓reduceIte, Nat.reduceAdd, Nat.reduceSub, Nat.reduceMul, Nat.reduceLT, Nat.reduceLeDiff, Nat.reduceBEq, Nat.reduceBneDiff, Nat.reduceEqDiff, Nat.reducePow, Int.reduceLT, Int.reduceLE, Int.reduceEq, Int.reduceNe, Int.reduceAdd, Int.reduceSub, Int.reduceMul, Int.reduceNeg, Int.reducePow, Int.reduceToNat, decide_true, decide_false, decide_eq_true_eq, Bool.false_eq_true, List.contains_nil, List.contains_cons, Bool.or_false, Bool.or_self, eq_self, and_self, and_true, true_and], .inr ⟨[.val (.scr ns), .val (.int (0 + i))], .bl true, [.val (.scr ns), .val (.int (0 + i))], rfl, ?_, rfl, by simp only [seqS_eq, nxS, bkS, ctS, nxt_nx, nxt_rt, nxt_bk, nxt_ct, ifS_eq, ifE_eq, brR_t, brR_f, brR_dec, anT_eq, orT_eq, anE_eq, orE_eq, tst_eq, isB_bl, ↓R.bind_bd, R.bd_ok, R.of_some, noT, blE, vr, cst, op1, op2, setS, setR, nxO, asgS, tupG, cnsG, nilG, nmG, subGO, subG, subS, getM, ixM, putO, cnsA, nilA, dTup, dLst, frz, retS, retM, setM, exS, mutS, appO, opC, callE, callM, callG_eq, cnsB, nilB, slB, kwB, ioM, toArgs, okA, slsA, nodN, argG_some, goG_ok, asE, asM, putA, newM, putM, parS, par3S, frzS, frzAt, bindO, endR_rt, endR_nx, endG, FL.collect, bodyG_eq, rho0, toS, wipeR, FL.pick, tru, truD, chn, lenM, isiD, typD, isTy,   List.getElem?_cons_zero, List.getElem?_cons_succ, List.getElem?_nil, List.set_cons_zero, List.set_cons_succ, List.set_nil, List.length_cons, List.length_nil, List.mapIdx_cons, List.mapIdx_nil, List.map_cons, List.map_nil, List.replicate_succ, List.replicate_zero, List.cons_append, List.nil_append, List.append_nil, List.foldl_cons, List.foldl_nil, List.filterMap_cons, List.filterMap_nil, Option.map_some, Option.map_none, Option.bind_some, Option.bind_none, Bool.not_true, Bool.not_false, Bool.and_true, Bool.true_and, Bool.or_true, Bool.and_self, if_true, if_false,   eqA_int, neA_int, eqA_str, neA_str, ltD_int, leD_int, gtD_int, geD_int, addD_int, subD_int, negD_int, absC_int, intC_int, maxC_int, minC_int, lenC_lst, lenC_tup, lenC_scr, Int.cast_ofNat_Int, Int.natCast_zero, Int.natCast_one,   ↓reduceIte, Nat.reduceAdd, Nat.reduceSub, Nat.reduceMul, Nat.reduceLT, Nat.reduceLeDiff, Nat.reduceBEq, Nat.reduceBneDiff, Nat.reduceEqDiff, Nat.reducePow, Int.reduceLT, Int.reduceLE, Int.reduceEq, Int.reduceNe, Int.reduceAdd, Int.reduceSub, Int.reduceMul, Int.reduceNeg, Int.reducePow, Int.reduceToNat, decide_true, decide_false, decide_eq_true_eq, Bool.false_eq_true, List.contains_nil, List.contains_cons, Bool.or_false, Bool.or_self, eq_self, and_self, and_true, true_and]⟩⟩
      simp only [callFE, callF, seqS_eq, nxS, bkS, ctS, nxt_nx, nxt_rt, nxt_bk, nxt_ct, ifS_eq, ifE_eq, brR_t, brR_f, brR_dec, anT_eq, orT_eq, anE_eq, orE_eq, tst_eq, isB_bl, ↓R.bind_bd, R.bd_ok, R.of_some, noT, blE, vr, cst, op1, op2, setS, setR, nxO, asgS, tupG, cnsG, nilG, nmG, subGO, subG, subS, getM, ixM, putO, cnsA, nilA, dTup, dLst, frz, retS, retM, setM, exS, mutS, appO, opC, callE, callM, callG_eq, cnsB, nilB, slB, kwB, ioM, toArgs, okA, slsA, nodN, argG_some, goG_ok, asE, asM, putA, newM, putM, parS, par3S, frzS, frzAt, bindO, endR_rt, endR_nx, endG, FL.collect, bodyG_eq, rho0, toS, wipeR, FL.pick, tru, truD, chn, lenM, isiD, typD, isTy,   List.getElem?_cons_zero, List.getElem?_cons_succ, List.getElem?_nil, List.set_cons_zero, List.set_cons_succ, List.set_nil, List.length_cons, List.length_nil, List.mapIdx_cons, List.mapIdx_nil, List.map_cons, List.map_nil, List.replicate_succ, List.replicate_zero, List.cons_append, List.nil_append, List.append_nil, List.foldl_cons, List.foldl_nil, List.filterMap_cons, List.filterMap_nil, Option.map_some, Option.map_none, Option.bind_some, Option.bind_none, Bool.not_true, Bool.not_false, Bool.and_true, Bool.true_and, Bool.or_true, Bool.and_self, if_true, if_false,   eqA_int, neA_int, eqA_str, neA_str, ltD_int, leD_int, gtD_int, geD_int, addD_int, subD_int, negD_int, absC_int, intC_int, maxC_int, minC_int, lenC_lst, lenC_tup, lenC_scr, Int.cast_ofNat_Int, Int.natCast_zero, Int.natCast_one,   ↓reduceIte, Nat.reduceAdd, Nat.reduceSub, Nat.reduceMul, Nat.reduceLT, Nat.reduceLeDiff, Nat.reduceBEq, Nat.reduceBneDiff, Nat.reduceEqDiff, Nat.reducePow, Int.reduceLT, Int.reduceLE, Int.reduceEq, Int.reduceNe, Int.reduceAdd, Int.reduceSub, Int.reduceMul, Int.reduceNeg, Int.reducePow, Int.reduceToNat, decide_true, decide_false, decide_eq_true_eq, Bool.false_eq_true, List.contains_nil, List.contains_cons, Bool.or_false, Bool.or_self, eq_self, and_self, and_true, true_and, es, er])
  rw [List.nil_append] at e
  have ha := all_true ys fun y hy' => by
    obtain ⟨_, _, h⟩ := hy y hy'
    exact h
  simp only [G_law, g_law, seqS_eq, nxS, bkS, ctS, nxt_nx, nxt_rt, nxt_bk, nxt_ct, ifS_eq, ifE_eq, brR_t, brR_f, brR_dec, anT_eq, orT_eq, anE_eq, orE_eq, tst_eq, isB_bl, ↓R.bind_bd, R.bd_ok, R.of_some, noT, blE, vr, cst, op1, op2, setS, setR, nxO, asgS, tupG, cnsG, nilG, nmG, subGO, subG, subS, getM, ixM, putO, cnsA, nilA, dTup, dLst, frz, retS, retM, setM, exS, mutS, appO, opC, callE, callM, callG_eq, cnsB, nilB, slB, kwB, ioM, toArgs, okA, slsA, nodN, argG_some, goG_ok, asE, asM, putA, newM, putM, parS, par3S, frzS, frzAt, bindO, endR_rt, endR_nx, endG, FL.collect, bodyG_eq, rho0, toS, wipeR, FL.pick, tru, truD, chn, lenM, isiD, typD, isTy,   List.getElem?_cons_zero, List.getElem?_cons_succ, List.getElem?_nil, List.set_cons_zero, List.set_cons_succ, List.set_nil, List.length_cons, List.length_nil, List.mapIdx_cons, List.mapIdx_nil, List.map_cons, List.map_nil, List.replicate_succ, List.replicate_zero, List.cons_append, List.nil_append, List.append_nil, List.foldl_cons, List.foldl_nil, List.filterMap_cons, List.filterMap_nil, Option.map_some, Option.map_none, Option.bind_some, Option.bind_none, Bool.not_true, Bool.not_false, Bool.and_true, Bool.true_and, Bool.or_true, Bool.and_self, if_true, if_false,   eqA_int, neA_int, eqA_str, neA_str, ltD_int, leD_int, gtD_int, geD_int, addD_int, subD_int, negD_int, absC_int, intC_int, maxC_int, minC_int, lenC_lst, lenC_tup, lenC_scr, Int.cast_ofNat_Int, Int.natCast_zero, Int.natCast_one,   ↓reduceIte, Nat.reduceAdd, Nat.reduceSub, Nat.reduceMul, Nat.reduceLT, Nat.reduceLeDiff, Nat.reduceBEq, Nat.reduceBneDiff, Nat.reduceEqDiff, Nat.reducePow, Int.reduceLT, Int.reduceLE, Int.reduceEq, Int.reduceNe, Int.reduceAdd, Int.reduceSub, Int.reduceMul, Int.reduceNeg, Int.reducePow, Int.reduceToNat, decide_true, decide_false, decide_eq_true_eq, Bool.false_eq_true, List.contains_nil, List.contains_cons, Bool.or_false, Bool.or_self, eq_self, and_self, and_true, true_and, cmpM, r, e, resR, ha]

end Wk
open PySem PySem.W PyProof.Rows in
set_option maxRecDepth 100000 in
set_option maxHeartbeats 0 in
theorem PySem.Challenge.cw_lenspairs_k70_whole_alike_judged_holds : PySem.Challenge.rw_lenspairs_k70_whole_alike_judged.Holds := by
  w_on; o_law; k_head; (case hw => w_witness2)
  k_fill
  refine FL.walkG (l := PySem.Challenge.rw_lenspairs_k70_whole_alike_judged) (n := 63) (k := 7) (G := fun _ _ => Wk.G_law) (x := "_law_script") rfl (by decide) rfl (by decide) (fun w h Y => PySem.W.kIn_of Y) ?F
  case F =>
    intro w mg fa h KX G XP hmg
    refine' Wk.all_mk (l := PySem.Challenge.rw_lenspairs_k70_whole_alike_judged) Wk.law_true KX G hmg ?a1 ?l1 ?c1 ?k1 ?a2 ?l2 ?c2 ?k2 ?a3 ?l3 ?c3 ?k3 ?a4 ?l4 ?c4 ?k4 ?a5 ?l5 ?c5 ?k5 ?a6 ?l6 ?c6 ?k6 ?a7 ?l7 ?c7 ?k7 ?a8 ?l8 ?c8 ?k8 ?a9 ?l9 ?c9 ?k9 ?a10 ?l10 ?c10 ?k10 ?a11 ?l11 ?c11 ?k11 ?a12 ?l12 ?c12 ?k12 ?a13 ?l13 ?c13 ?k13 ?a14 ?l14 ?c14 ?k14 ?a15 ?l15 ?c15 ?k15 ?a16 ?l16 ?c16 ?k16 ?a17 ?l17 ?c17 ?k17 ?a18 ?l18 ?c18 ?k18 ?z_abs ?z_all ?z_bool ?z_divmod ?z_int ?z_isinstance ?z_len ?z_max ?z_min ?z_range ?z_repr ?z_str ?z_tuple ?x_OF_PAIRS ?v_OF_PAIRS ?x_OF_STRINGS ?v_OF_STRINGS
    (case a1 => k_is)
    (case l1 => k_is)
    (case c1 => k_is)
    (case k1 => k_is)
    (case a2 => k_is)
    (case l2 => k_is)
    (case c2 => k_is)
    (case k2 => k_is)
    (case a3 => k_is)
    (case l3 => k_is)
    (case c3 => k_is)
    (case k3 => k_is)
    (case a4 => k_is)
    (case l4 => k_is)
    (case c4 => k_is)
    (case k4 => k_is)
    (case a5 => k_is)
    (case l5 => k_is)
    (case c5 => k_is)
    (case k5 => k_is)
    (case a6 => k_is)
    (case l6 => k_is)
    (case c6 => k_is)
    (case k6 => k_is)
    (case a7 => k_is)
    (case l7 => k_is)
    (case c7 => k_is)
    (case k7 => k_is)
    (case a8 => k_is)
    (case l8 => k_is)
    (case c8 => k_is)
    (case k8 => k_is)
    (case a9 => k_is)
    (case l9 => k_is)
    (case c9 => k_is)
    (case k9 => k_is)
    (case a10 => k_is)
    (case l10 => k_is)
    (case c10 => k_is)
    (case k10 => k_is)
    (case a11 => k_is)
    (case l11 => k_is)
    (case c11 => k_is)
    (case k11 => k_is)
    (case a12 => k_is)
    (case l12 => k_is)
    (case c12 => k_is)
    (case k12 => k_is)
    (case a13 => k_is)
    (case l13 => k_is)
    (case c13 => k_is)
    (case k13 => k_is)
    (case a14 => k_is)
    (case l14 => k_is)
    (case c14 => k_is)
    (case k14 => k_is)
    (case a15 => k_is)
    (case l15 => k_is)
    (case c15 => k_is)
    (case k15 => k_is)
    (case a16 => k_is)
    (case l16 => k_is)
    (case c16 => k_is)
    (case k16 => k_is)
    (case a17 => k_is)
    (case l17 => k_is)
    (case c17 => k_is)
    (case k17 => k_is)
    (case a18 => k_is)
    (case l18 => k_is)
    (case c18 => k_is)
    (case k18 => k_is)
    (case z_abs => k_is)
    (case z_all => k_is)
    (case z_bool => k_is)
    (case z_divmod => k_is)
    (case z_int => k_is)
    (case z_isinstance => k_is)
    (case z_len => k_is)
    (case z_max => k_is)
    (case z_min => k_is)
    (case z_range => k_is)
    (case z_repr => k_is)
    (case z_str => k_is)
    (case z_tuple => k_is)
    (case x_OF_PAIRS => k_is)
    (case v_OF_PAIRS => k_is)
    (case x_OF_STRINGS => k_is)
    (case v_OF_STRINGS => k_is)
