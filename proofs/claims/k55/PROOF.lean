import PyProof.Rows.All
import Wide.All
import OpenK.AllK
import Wide.FinOn
import HandS.ForMost
import HandS.Exc
import HandS.ExcOwn
import HandS.TryOnly
import HandS.WordsExc
import HandS.Evl
import HandS.TupAny
import HandS.TupMul
import HandS.Style
import HandS.NoneIn
import HandS.Zip
import HandS.Rev
import HandS.IsInst
import HandS.RevTup
import HandS.HeadHook4
import HandS.HeadNt
import HandS.ExcInit
import HandS.ExcSuper
import KE.KExcSuper
import KE.KSuper
import PyProof.Rows.FactsExc_KeyError
import PyProof.ExcBaseAll.LookupError
import HandS.ExcField
import HandS.Head0
import HandS.Head1
import HandS.Head2
import HandS.HeadEnd
import KE.GoesMore
import KE.GoesZip
import KE.GoesEnum
import HandS.TryMany
import HandS.Lambda
import HandS.RaiseMore
import HandS.EndTab
import PySem.Challenge.RW_logsapart_k55_whole_a_desk_of_one_store
set_option Elab.async false
set_option linter.all false
set_option maxRecDepth 100000
set_option maxHeartbeats 1000000
/-! # The D-layer, part 1: data, what represents it, the judgements over data -/
namespace DL
open PySem PySem.Spec PyProof.Rows L2
open Evl (Ex)

/-- data: what never changes is a value by itself; ref a: a thing that may change, at a -/
inductive D where
  | non | bl (b : Bool) | int (i : Int) | str (x : Str) | tup (ds : List D) | lst (ds : List D) | fro (ds : List D) | ref (a : Addr) | ins (C : Addr) (ns : List Str) (ds : List D)

mutual
def Rep (K : PySem.W.Frag) (F : Hp) : D → V → Prop
  | .non, v => v = .non
  | .bl b, v => v = .bl b
  | .int i, v => v = .int i
  | .str x, v => v = .str x
  | .ref a, v => v = .ref a
  | .tup ds, v => ∃ a vs, v = .ref a ∧ SqT K F a vs ∧ Reps K F ds vs
  | .lst ds, v => ∃ a vs, v = .ref a ∧ F a = some (.lst vs) ∧ Reps K F ds vs
  | .fro ds, v => ∃ a vs, v = .ref a ∧ SqL K F a vs ∧ Reps K F ds vs
  | .ins C ns ds, v => ∃ a dx vs, v = .ref a ∧ F a = some (.ins C dx (ns.zip vs)) ∧ ns.length = ds.length ∧ Reps K F ds vs
def Reps (K : PySem.W.Frag) (F : Hp) : List D → List V → Prop
  | [], vs => vs = []
  | d :: ds, vs => ∃ v r, vs = v :: r ∧ Rep K F d v ∧ Reps K F ds r
end

section
variable {K : PySem.W.Frag} {F F' : Hp}
mutual
theorem Rep.mono (e : Ex F F') : ∀ {d : D} {v : V}, Rep K F d v → Rep K F' d v
  | .non, _, h => h
  | .bl _, _, h => h
  | .int _, _, h => h
  | .str _, _, h => h
  | .ref _, _, h => h
  | .tup _, _, ⟨a, vs, h1, h2, h3⟩ => ⟨a, vs, h1, Evl.ex_t e h2, Reps.mono e h3⟩
  | .lst _, _, ⟨a, vs, h1, h2, h3⟩ => ⟨a, vs, h1, e _ _ h2, Reps.mono e h3⟩
  | .fro _, _, ⟨a, vs, h1, h2, h3⟩ => ⟨a, vs, h1, Evl.ex_l e h2, Reps.mono e h3⟩
  | .ins _ _ _, _, ⟨a, dx, vs, h1, h2, h3, h4⟩ => ⟨a, dx, vs, h1, e _ _ h2, h3, Reps.mono e h4⟩
theorem Reps.mono (e : Ex F F') : ∀ {ds : List D} {vs : List V}, Reps K F ds vs → Reps K F' ds vs
  | [], _, h => h
  | _ :: _, _, ⟨v, r, h1, h2, h3⟩ => ⟨v, r, h1, Rep.mono e h2, Reps.mono e h3⟩
end
theorem Reps.nil : Reps K F [] [] := rfl
theorem Reps.cons {d : D} {v : V} {ds : List D} {vs : List V} (h : Rep K F d v) (r : Reps K F ds vs) : Reps K F (d :: ds) (v :: vs) := ⟨v, vs, rfl, h, r⟩
theorem Reps.length : ∀ {ds : List D} {vs : List V}, Reps K F ds vs → vs.length = ds.length
  | [], _, h => by rw [show _ = [] from h]; rfl
  | _ :: _, _, ⟨v, r, h1, _, h3⟩ => by rw [h1, List.length_cons, List.length_cons, Reps.length h3]
theorem Reps.get : ∀ {ds : List D} {vs : List V} {i : Nat} {d : D}, Reps K F ds vs → ds[i]? = some d → ∃ v, vs[i]? = some v ∧ Rep K F d v
  | [], _, _, _, _, e => by simp at e
  | d :: ds, _, 0, d', ⟨v, r, h1, h2, h3⟩, e => by
    simp at e
    subst e h1
    exact ⟨v, rfl, h2⟩
  | d :: ds, _, i + 1, d', ⟨v, r, h1, h2, h3⟩, e => by
    subst h1
    obtain ⟨u, a, b⟩ := Reps.get (i := i) (d := d') h3 (by simpa using e)
    exact ⟨u, by simpa using a, b⟩
theorem Reps.get' : ∀ {ds : List D} {vs : List V} {i : Nat} {v : V}, Reps K F ds vs → vs[i]? = some v → ∃ d, ds[i]? = some d ∧ Rep K F d v
  | [], _, _, _, h, e => by
    rw [show _ = [] from h] at e
    simp at e
  | d :: ds, _, 0, v', ⟨v, r, h1, h2, h3⟩, e => by
    subst h1
    simp at e
    subst e
    exact ⟨d, rfl, h2⟩
  | d :: ds, _, i + 1, v', ⟨v, r, h1, h2, h3⟩, e => by
    subst h1
    obtain ⟨u, a, b⟩ := Reps.get' (i := i) (v := v') h3 (by simpa using e)
    exact ⟨u, by simpa using a, b⟩
theorem Reps.app : ∀ {ds es : List D} {vs us : List V}, Reps K F ds vs → Reps K F es us → Reps K F (ds ++ es) (vs ++ us)
  | [], _, _, _, h, g => by
    rw [show _ = [] from h]
    exact g
  | _ :: _, _, _, _, ⟨v, r, h1, h2, h3⟩, g => by
    subst h1
    exact ⟨v, _, rfl, h2, Reps.app h3 g⟩
theorem Reps.take : ∀ {ds : List D} {vs : List V} (n : Nat), Reps K F ds vs → Reps K F (ds.take n) (vs.take n)
  | _, _, 0, _ => rfl
  | [], _, n + 1, h => by
    rw [show _ = [] from h]
    exact rfl
  | _ :: _, _, n + 1, ⟨v, r, h1, h2, h3⟩ => by
    subst h1
    exact ⟨v, _, rfl, h2, Reps.take n h3⟩
theorem Reps.drop : ∀ {ds : List D} {vs : List V} (n : Nat), Reps K F ds vs → Reps K F (ds.drop n) (vs.drop n)
  | _, _, 0, h => h
  | [], _, n + 1, h => by
    rw [show _ = [] from h]
    exact rfl
  | _ :: _, _, n + 1, ⟨v, r, h1, h2, h3⟩ => by
    subst h1
    exact Reps.drop n h3
theorem Reps.set {d : D} {v : V} (hd : Rep K F d v) : ∀ {ds : List D} {vs : List V} (i : Nat), Reps K F ds vs → Reps K F (ds.set i d) (vs.set i v)
  | [], _, _, h => by
    rw [show _ = [] from h]
    exact rfl
  | _ :: _, _, 0, ⟨u, r, h1, h2, h3⟩ => by
    subst h1
    exact ⟨v, r, rfl, hd, h3⟩
  | _ :: _, _, i + 1, ⟨u, r, h1, h2, h3⟩ => by
    subst h1
    exact ⟨u, _, rfl, h2, Reps.set hd i h3⟩
theorem Reps.rev : ∀ {ds : List D} {vs : List V}, Reps K F ds vs → Reps K F ds.reverse vs.reverse
  | [], _, h => by
    rw [show _ = [] from h]
    exact rfl
  | d :: ds, _, ⟨u, r, h1, h2, h3⟩ => by
    subst h1
    rw [List.reverse_cons, List.reverse_cons]
    exact Reps.app (Reps.rev h3) (.cons h2 .nil)
end

/-! ### the memory of what may change -/
inductive MO where
  | lst (ds : List D) | ins (C : Addr) (ns : List Str) (ds : List D) | tab (q : Str)
abbrev Mem := Addr → Option MO
def mup (M : Mem) (a : Addr) (m : MO) : Mem := fun b => if b = a then some m else M b
theorem mup_same {M : Mem} {a : Addr} {m : MO} : mup M a m a = some m := if_pos rfl
theorem mup_ne {M : Mem} {a b : Addr} {m : MO} (h : b ≠ a) : mup M a m b = M b := if_neg h
theorem mup_mup {M : Mem} {a : Addr} {m n : MO} : mup (mup M a m) a n = mup M a n := by
  funext b
  unfold mup
  split <;> rfl
def MSub (M M' : Mem) : Prop := ∀ a m, M a = some m → M' a = some m
theorem MSub.refl (M : Mem) : MSub M M := fun _ _ h => h
theorem MSub.trans {M M1 M2 : Mem} (a : MSub M M1) (b : MSub M1 M2) : MSub M M2 := fun x m h => b x m (a x m h)
theorem MSub.new {M : Mem} {a : Addr} {m : MO} (h : M a = none) : MSub M (mup M a m) := fun b n e => by
  have ne : b ≠ a := fun z => by
    rw [z, h] at e
    cases e
  rw [mup_ne ne]
  exact e
theorem MSub.up {M M' : Mem} {a : Addr} {m : MO} (s : MSub M M') : MSub (mup M a m) (mup M' a m) := fun b n e => by
  by_cases hb : b = a
  · subst hb
    rw [mup_same] at e ⊢
    exact e
  · rw [mup_ne hb] at e ⊢
    exact s b n e
theorem MSub.over {M M' : Mem} {a : Addr} {m : MO} (s : MSub M M') (h : M a = none) : MSub M (mup M' a m) := fun b n e => by
  have ne : b ≠ a := fun z => by
    rw [z, h] at e
    cases e
  rw [mup_ne ne]
  exact s b n e
theorem ne_none {M : Mem} {a b : Addr} {m : MO} (h : M a = some m) (h' : M b = none) : a ≠ b := fun z => by
  rw [z, h'] at h
  cases h
theorem none_mup {M : Mem} {a b : Addr} {m : MO} (h : mup M a m b = none) : b ≠ a ∧ M b = none := by
  by_cases hb : b = a
  · rw [hb, mup_same] at h
    cases h
  · rw [mup_ne hb] at h
    exact ⟨hb, h⟩
/-- a table of code objects, all of the name q -/
def TabD (F H : Hp) (P : Addr) (q : Str) : Prop :=
  ∃ ps : Array Value, H P = some (.tbl ps) ∧ TriplesOk ps.toList ∧ ∀ (pos : Pos) (cv : Value), codeAmong pos ps.toList = some cv → ∃ c, cv = .ref c ∧ F c = some (HO.ext fun h => ∃ (oc : Obj) (vs : Array Value) (t : Tok), h.get? c = some oc ∧ oc.data = .fields vs ∧ vs[1]? = some (.str q t))
def MRep (K : PySem.W.Frag) (F H : Hp) (a : Addr) : MO → Prop
  | .lst ds => ∃ vs, H a = some (.lst vs) ∧ Reps K F ds vs
  | .ins C ns ds => ∃ dx vs, H a = some (.ins C dx (ns.zip vs)) ∧ ns.length = ds.length ∧ Reps K F ds vs
  | .tab q => TabD F H a q
structure Sto (K : PySem.W.Frag) (F : Hp) (M : Mem) (H : Hp) : Prop where
  ex : Ex F H
  mem : ∀ a m, M a = some m → F a = none ∧ MRep K F H a m
  nt : ∀ b ps, F b ≠ some (.tbl ps)
abbrev Sl := List (Option D)
structure SlotsR (K : PySem.W.Frag) (F : Hp) (δ : Sl) (σ : L2.St) : Prop where
  len : δ.length = σ.length
  get : ∀ (i : Nat) (d : D), δ[i]? = some (some d) → ∃ v, σ[i]? = some (some v) ∧ Rep K F d v
section
variable {K : PySem.W.Frag} {F F' H H' : Hp} {M M' : Mem} {a p : Addr} {m : MO} {δ δ' : Sl} {σ : L2.St}
theorem TabD.mono {q : Str} (e : Ex F F') (t : TabD F H a q) : TabD F' H a q := by
  obtain ⟨ps, h1, h2, h3⟩ := t
  refine ⟨ps, h1, h2, fun pos cv hc => ?_⟩
  obtain ⟨c, e1, e2⟩ := h3 pos cv hc
  exact ⟨c, e1, e _ _ e2⟩
theorem MRep.mono (e : Ex F F') : ∀ {m : MO}, MRep K F H a m → MRep K F' H a m
  | .lst _, ⟨vs, h1, h2⟩ => ⟨vs, h1, h2.mono e⟩
  | .ins _ _ _, ⟨dx, vs, h1, h2, h3⟩ => ⟨dx, vs, h1, h2, h3.mono e⟩
  | .tab _, t => TabD.mono e t
theorem MRep.at (e : H' a = H a) : ∀ {m : MO}, MRep K F H a m → MRep K F H' a m
  | .lst _, ⟨vs, h1, h2⟩ => ⟨vs, e.trans h1, h2⟩
  | .ins _ _ _, ⟨dx, vs, h1, h2, h3⟩ => ⟨dx, vs, e.trans h1, h2, h3⟩
  | .tab _, ⟨ps, h1, h2, h3⟩ => ⟨ps, e.trans h1, h2, h3⟩
theorem MRep.some : ∀ {m : MO}, MRep K F H a m → ∃ o, H a = some o
  | .lst _, ⟨vs, h1, _⟩ => ⟨_, h1⟩
  | .ins _ _ _, ⟨dx, vs, h1, _⟩ => ⟨_, h1⟩
  | .tab _, ⟨ps, h1, _⟩ => ⟨_, h1⟩
theorem Sto.free (s : Sto K F M H) (h : H p = none) : F p = none ∧ M p = none := by
  constructor
  · cases e : F p with
    | none => rfl
    | some o =>
      have z := s.ex p o e
      rw [h] at z
      cases z
  · cases e : M p with
    | none => rfl
    | some m =>
      obtain ⟨o, z⟩ := (s.mem p m e).2.some
      rw [h] at z
      cases z
theorem nt_upd {o : HO} (h : ∀ b ps, F b ≠ some (.tbl ps)) (no : ∀ ps, o ≠ .tbl ps) : ∀ b ps, upd F p o b ≠ some (.tbl ps) := fun b ps e => by
  by_cases hb : b = p
  · subst hb
    rw [upd_same] at e
    exact no ps (Option.some.inj e)
  · rw [upd_ne hb] at e
    exact h b ps e
/-- a new object that will not change -/
theorem Sto.frozen {o : HO} (s : Sto K F M H) (h : H p = none) (no : ∀ ps, o ≠ .tbl ps := by intro _ z; cases z) : Ex F (upd F p o) ∧ Sto K (upd F p o) M (upd H p o) := by
  have hF := (s.free h).1
  have e1 : Ex F (upd F p o) := Ex.new hF
  refine ⟨e1, fun b u e => ?_, fun b m e => ?_, fun b ps e => ?_⟩
  rotate_left 2
  · by_cases hb : b = p
    · subst hb
      rw [upd_same] at e
      exact no ps (Option.some.inj e)
    · rw [upd_ne hb] at e
      exact s.nt b ps e
  · by_cases hb : b = p
    · subst hb
      rw [upd_same] at e ⊢
      exact e
    · rw [upd_ne hb] at e ⊢
      exact s.ex b u e
  · obtain ⟨h1, h2⟩ := s.mem b m e
    have nb : b ≠ p := ne_none e (s.free h).2
    exact ⟨by rw [upd_ne nb]; exact h1, (h2.at (upd_ne nb)).mono e1⟩
/-- a new list that may change -/
theorem Sto.newL {vs : List V} {ds : List D} (s : Sto K F M H) (h : H p = none) (r : Reps K F ds vs) : Sto K F (mup M p (.lst ds)) (upd H p (.lst vs)) := by
  refine ⟨fun b u e => ?_, fun b m e => ?_, s.nt⟩
  · rw [upd_ne (ne_of_none (s.ex b u e) h)]
    exact s.ex b u e
  · by_cases hb : b = p
    · subst hb
      rw [mup_same] at e
      cases e
      exact ⟨(s.free h).1, vs, upd_same, r⟩
    · rw [mup_ne hb] at e
      obtain ⟨h1, h2⟩ := s.mem b m e
      exact ⟨h1, h2.at (upd_ne hb)⟩
/-- a list of the memory is changed -/
theorem Sto.setL {vs : List V} {ds : List D} (s : Sto K F M H) (h : M p = some m) (r : Reps K F ds vs) : Sto K F (mup M p (.lst ds)) (upd H p (.lst vs)) := by
  obtain ⟨hF, _⟩ := s.mem p m h
  refine ⟨fun b u e => ?_, fun b m e => ?_, s.nt⟩
  · have nb : b ≠ p := fun z => by
      rw [z, hF] at e
      cases e
    rw [upd_ne nb]
    exact s.ex b u e
  · by_cases hb : b = p
    · subst hb
      rw [mup_same] at e
      cases e
      exact ⟨hF, vs, upd_same, r⟩
    · rw [mup_ne hb] at e
      obtain ⟨h1, h2⟩ := s.mem b m e
      exact ⟨h1, h2.at (upd_ne hb)⟩
theorem Sto.setI {C dx : Addr} {ns : List Str} {vs : List V} {ds : List D} (s : Sto K F M H) (h : M p = some m) (l : ns.length = ds.length) (r : Reps K F ds vs) : Sto K F (mup M p (.ins C ns ds)) (upd H p (.ins C dx (ns.zip vs))) := by
  obtain ⟨hF, _⟩ := s.mem p m h
  refine ⟨fun b u e => ?_, fun b m e => ?_, s.nt⟩
  · have nb : b ≠ p := fun z => by
      rw [z, hF] at e
      cases e
    rw [upd_ne nb]
    exact s.ex b u e
  · by_cases hb : b = p
    · subst hb
      rw [mup_same] at e
      cases e
      exact ⟨hF, dx, vs, upd_same, l, r⟩
    · rw [mup_ne hb] at e
      obtain ⟨h1, h2⟩ := s.mem b m e
      exact ⟨h1, h2.at (upd_ne hb)⟩
theorem Sto.sub (s : Sto K F M H) (h : MSub M' M) : Sto K F M' H := ⟨s.ex, fun a m e => s.mem a m (h a m e), s.nt⟩
/-- what is changed no more is data -/
theorem Sto.freezeL {ds : List D} (s : Sto K F M H) (h : M p = some (.lst ds)) : ∃ F', Ex F F' ∧ Sto K F' (fun b => if b = p then none else M b) H ∧ Rep K F' (.lst ds) (.ref p) := by
  obtain ⟨hF, vs, h1, h2⟩ := s.mem p _ h
  have e1 : Ex F (upd F p (.lst vs)) := Ex.new hF
  refine ⟨upd F p (.lst vs), e1, ⟨fun b u e => ?_, fun b m e => ?_, nt_upd s.nt (by intro _ z; cases z)⟩, p, vs, rfl, upd_same, h2.mono e1⟩
  · by_cases hb : b = p
    · subst hb
      rw [upd_same] at e
      cases e
      exact h1
    · rw [upd_ne hb] at e
      exact s.ex b u e
  · by_cases hb : b = p
    · have z : (if b = p then none else M b) = some m := e
      rw [if_pos hb] at z
      cases z
    · have z : (if b = p then none else M b) = some m := e
      rw [if_neg hb] at z
      obtain ⟨g1, g2⟩ := s.mem b m z
      exact ⟨by rw [upd_ne hb]; exact g1, g2.mono e1⟩
theorem Sto.freezeI {C : Addr} {ns : List Str} {ds : List D} (s : Sto K F M H) (h : M p = some (.ins C ns ds)) : ∃ F', Ex F F' ∧ Sto K F' (fun b => if b = p then none else M b) H ∧ Rep K F' (.ins C ns ds) (.ref p) := by
  obtain ⟨hF, dx, vs, h1, hl, h2⟩ := s.mem p _ h
  have e1 : Ex F (upd F p (.ins C dx (ns.zip vs))) := Ex.new hF
  refine ⟨upd F p (.ins C dx (ns.zip vs)), e1, ⟨fun b u e => ?_, fun b m e => ?_, nt_upd s.nt (by intro _ z; cases z)⟩, p, dx, vs, rfl, upd_same, hl, h2.mono e1⟩
  · by_cases hb : b = p
    · subst hb
      rw [upd_same] at e
      cases e
      exact h1
    · rw [upd_ne hb] at e
      exact s.ex b u e
  · by_cases hb : b = p
    · have z : (if b = p then none else M b) = some m := e
      rw [if_pos hb] at z
      cases z
    · have z : (if b = p then none else M b) = some m := e
      rw [if_neg hb] at z
      obtain ⟨g1, g2⟩ := s.mem b m z
      exact ⟨by rw [upd_ne hb]; exact g1, g2.mono e1⟩
theorem SlotsR.mono (e : Ex F F') (s : SlotsR K F δ σ) : SlotsR K F' δ σ := ⟨s.len, fun i d h => by
  obtain ⟨v, h1, h2⟩ := s.get i d h
  exact ⟨v, h1, h2.mono e⟩⟩
theorem SlotsR.set {d : D} {v : V} {i : Nat} (s : SlotsR K F δ σ) (r : Rep K F d v) : SlotsR K F (δ.set i (some d)) (σ.set i (some v)) := by
  refine ⟨by rw [List.length_set, List.length_set, s.len], fun j e h => ?_⟩
  by_cases hj : i = j
  · subst hj
    by_cases hi : i < δ.length
    · rw [List.getElem?_set_self hi] at h
      cases h
      exact ⟨v, by rw [List.getElem?_set_self (by rw [← s.len]; exact hi)], r⟩
    · rw [List.getElem?_eq_none (by rw [List.length_set]; omega)] at h
      cases h
  · rw [List.getElem?_set_ne hj] at h
    obtain ⟨u, h1, h2⟩ := s.get j e h
    exact ⟨u, by rw [List.getElem?_set_ne hj]; exact h1, h2⟩
/-- forgetting -/
theorem SlotsR.weak (s : SlotsR K F δ σ) (hl : δ'.length = δ.length) (h : ∀ (i : Nat) d, δ'[i]? = some (some d) → δ[i]? = some (some d)) : SlotsR K F δ' σ := ⟨hl.trans s.len, fun i d e => s.get i d (h i d e)⟩
end
end DL

set_option Elab.async false
set_option linter.all false
set_option maxRecDepth 100000
set_option maxHeartbeats 1000000
/-! # The D-layer, part 2: contexts, judgements over data, expressions, tests, arguments -/
namespace DL
open PySem PySem.Spec PyProof.Rows L2
open Evl (Ex)

structure Gb where
  P : Program
  w : World
  K : PySem.W.Frag
  mg : Str → Option Value
  base : Heap
/-- what is wanted of an exception: its class, its fields' names and values, the slots, the memory -/
abbrev Xd := Addr → List Str → List D → Sl → Mem → Prop
abbrev NoX : Xd := fun _ _ _ _ _ => False
structure Cz where
  N : List Str
  sc : Scope
  k : Nat
  E : Xd
  fnb : Str → Bool
  top : Bool
  qual : Str
  cd : Value
  gd : Bool := false
def WofD (K : PySem.W.Frag) (F0 : Hp) (E : Xd) : WX := fun cls d σ H => ∃ (C dd : Addr) (ns : List Str) (us : List V) (ds : List D) (F : Hp) (δ : Sl) (M : Mem),
  cls = .ref C ∧ d = some dd ∧ Ex F0 F ∧ Sto K F M H ∧ SlotsR K F δ σ ∧ H dd = some (.xd (ns.zip us)) ∧ ns.length = ds.length ∧ Reps K F ds us ∧ E C ns ds δ M
structure Good (g : Gb) (c : Cz) (X : Cx) (F0 : Hp) : Prop where
  prog : X.prog = g.P
  w : X.w = g.w
  K : X.K = g.K
  mg : X.mg = g.mg
  base : X.base = g.base
  N : X.N = c.N
  nd : c.N.Nodup
  sc : X.env.scope = c.sc
  knd : c.sc.kind = .function
  calm : X.calm = true
  room : Room c.k X.A
  takes : Takes X (WofD g.K F0 c.E)
  pas : PassesOwn (model X.prog X.w) X.A X.env X.xe
  fn : ∀ x, c.fnb x = true → X.fn x = true
  top : c.top = true → X.stack = X.env :: X.outer ∧ X.env.frame = some X.env.locals ∧ X.ex = [] ∧ X.env.qual = c.qual ∧ X.env.code = c.cd
  gd : c.gd = true → X.A.guards = some [] := by intro h; cases h

/-! ### the weakest readings -/
def wE (X : Cx) (e : Expr) : TE := fun σ H Q => ∀ pins s, Inv X pins σ H s → wpAny (model X.prog X.w) X.A (eval e X.env) (EP X pins σ Q) X.xe s
def wT (X : Cx) (e : Expr) : TT := fun σ H Q => ∀ pins s, Inv X pins σ H s → wpAny (model X.prog X.w) X.A (isTrue e X.env (eval e X.env)) (TP X pins σ Q) X.xe s
def wW (X : Cx) (e : Expr) : TT := fun σ H Q => ∀ whole pins s, Inv X pins σ H s → wpAny (model X.prog X.w) X.A (isTrue e X.env whole) (TP X pins σ Q) X.xe s
def wA (X : Cx) (es : List Expr) : TA := fun σ H Q => ∀ pos pins s, Inv X pins σ H s → wpAny (model X.prog X.w) X.A (spliced (backTo pos (starEach es X.env))) (AP X pins σ Q) X.xe s
def wS (X : Cx) (st : Stmt) : TS := fun D σ H => ∀ pins s, Inv X pins σ H s → wpAny (model X.prog X.w) X.A (exec st X.env) (SP X pins D) X.xe s
def wSs (X : Cx) (st : List Stmt) : TS := fun D σ H => ∀ pins s, Inv X pins σ H s → wpAny (model X.prog X.w) X.A (execs st X.env) (SP X pins D) X.xe s
def wG (X : Cx) (tg : Expr) : TG := fun v σ H Q => ∀ pins s u, Inv X pins σ H s → RelV v u → wpAny (model X.prog X.w) X.A (assign tg X.env u) (fun _ s' => ∃ σ' H', Inv X pins σ' H' s' ∧ Q σ' H') X.xe s
def wGs (X : Cx) (ts : List Expr) : TGs := fun vs σ H Q => ∀ pins s us, Inv X pins σ H s → Vals vs us → wpAny (model X.prog X.w) X.A (assignInOrder ((assignEach ts X.env).map (·.2)) us) (fun _ s' => ∃ σ' H', Inv X pins σ' H' s' ∧ Q σ' H') X.xe s
section
variable {X : Cx} {e : Expr} {es : List Expr} {st : Stmt} {sts : List Stmt} {σ : L2.St} {H : Hp}
theorem pe_wE : PE X e (wE X e) := ⟨fun pins s σ H Q I h => h pins s I⟩
theorem pt_wT : PT X e (wT X e) := ⟨fun pins s σ H Q I h => h pins s I⟩
theorem pw_wW : PW X e (wW X e) := ⟨fun wh pins s σ H Q I h => h wh pins s I⟩
theorem pa_wA : PA X es (wA X es) := ⟨fun pos pins s σ H Q I h => h pos pins s I⟩
theorem ps_wS : PS X st (wS X st) := ⟨fun pins s σ H D I h => h pins s I⟩
theorem pss_wSs : PSs X sts (wSs X sts) := ⟨fun pins s σ H D I h => h pins s I⟩
theorem pg_wG : PG X e (wG X e) := ⟨fun pins s σ H v u Q I r h => h pins s u I r⟩
theorem pgs_wGs : PGs X es (wGs X es) := ⟨fun pins s σ H vs us Q I r h => h pins s us I r⟩
theorem wE_of {t : TE} {Q : VK} (p : PE X e t) (q : t σ H Q) : wE X e σ H Q := fun pins s I => p.run pins s σ H Q I q
theorem wT_of {t : TT} {Q : Bool → Hp → Prop} (p : PT X e t) (q : t σ H Q) : wT X e σ H Q := fun pins s I => p.run pins s σ H Q I q
theorem wW_of {t : TT} {Q : Bool → Hp → Prop} (p : PW X e t) (q : t σ H Q) : wW X e σ H Q := fun wh pins s I => p.run wh pins s σ H Q I q
theorem wA_of {t : TA} {Q : List V → Hp → Prop} (p : PA X es t) (q : t σ H Q) : wA X es σ H Q := fun pos pins s I => p.run pos pins s σ H Q I q
theorem wS_of {t : TS} {D : Ends} (p : PS X st t) (q : t D σ H) : wS X st D σ H := fun pins s I => p.run pins s σ H D I q
theorem wSs_of {t : TS} {D : Ends} (p : PSs X sts t) (q : t D σ H) : wSs X sts D σ H := fun pins s I => p.run pins s σ H D I q
theorem wG_of {t : TG} {v : V} {Q : L2.St → Hp → Prop} (p : PG X e t) (q : t v σ H Q) : wG X e v σ H Q := fun pins s u I r => p.run pins s σ H v u Q I r q
theorem wGs_of {t : TGs} {vs : List V} {Q : L2.St → Hp → Prop} (p : PGs X es t) (q : t vs σ H Q) : wGs X es vs σ H Q := fun pins s us I r => p.run pins s σ H vs us Q I r q
theorem wE_mono {Q Q' : VK} (h : wE X e σ H Q) (k : ∀ v H', Q v H' → Q' v H') : wE X e σ H Q' := fun pins s I => thn (h pins s I) fun u s1 ⟨v, H', I', r, q⟩ => ⟨v, H', I', r, k v H' q⟩
theorem wT_mono {Q Q' : Bool → Hp → Prop} (h : wT X e σ H Q) (k : ∀ v H', Q v H' → Q' v H') : wT X e σ H Q' := fun pins s I => thn (h pins s I) fun u s1 ⟨H', I', q⟩ => ⟨H', I', k u H' q⟩
theorem wW_mono {Q Q' : Bool → Hp → Prop} (h : wW X e σ H Q) (k : ∀ v H', Q v H' → Q' v H') : wW X e σ H Q' := fun wh pins s I => thn (h wh pins s I) fun u s1 ⟨H', I', q⟩ => ⟨H', I', k u H' q⟩
theorem wA_mono {Q Q' : List V → Hp → Prop} (h : wA X es σ H Q) (k : ∀ v H', Q v H' → Q' v H') : wA X es σ H Q' := fun pos pins s I => thn (h pos pins s I) fun u s1 ⟨v, H', I', r, q⟩ => ⟨v, H', I', r, k v H' q⟩
theorem wG_mono {v : V} {Q Q' : L2.St → Hp → Prop} (h : wG X e v σ H Q) (k : ∀ σ' H', Q σ' H' → Q' σ' H') : wG X e v σ H Q' := fun pins s u I r => thn (h pins s u I r) fun _ s1 ⟨σ', H', I', q⟩ => ⟨σ', H', I', k σ' H' q⟩
theorem wGs_mono {vs : List V} {Q Q' : L2.St → Hp → Prop} (h : wGs X es vs σ H Q) (k : ∀ σ' H', Q σ' H' → Q' σ' H') : wGs X es vs σ H Q' := fun pins s us I r => thn (h pins s us I r) fun _ s1 ⟨σ', H', I', q⟩ => ⟨σ', H', I', k σ' H' q⟩
structure EImp (D D' : Ends) : Prop where
  nx : ∀ σ H, D.nx σ H → D'.nx σ H
  rt : ∀ v H, D.rt v H → D'.rt v H
  bk : ∀ σ H, D.bk σ H → D'.bk σ H
  ct : ∀ σ H, D.ct σ H → D'.ct σ H
theorem SP.imp {pins : List (Addr × Obj)} {D D' : Ends} {f : Flow} {s : Shared} (k : EImp D D') (h : SP X pins D f s) : SP X pins D' f s := by
  cases f with
  | next =>
    obtain ⟨σ', H', I, q⟩ := h
    exact ⟨σ', H', I, k.nx _ _ q⟩
  | brk =>
    obtain ⟨σ', H', I, q⟩ := h
    exact ⟨σ', H', I, k.bk _ _ q⟩
  | cont =>
    obtain ⟨σ', H', I, q⟩ := h
    exact ⟨σ', H', I, k.ct _ _ q⟩
  | ret u =>
    obtain ⟨v, σ', H', I, r, q⟩ := h
    exact ⟨v, σ', H', I, r, k.rt _ _ q⟩
theorem wS_mono {D D' : Ends} (h : wS X st D σ H) (k : EImp D D') : wS X st D' σ H := fun pins s I => thn (h pins s I) fun _ _ q => SP.imp k q
theorem wSs_mono {D D' : Ends} (h : wSs X sts D σ H) (k : EImp D D') : wSs X sts D' σ H := fun pins s I => thn (h pins s I) fun _ _ q => SP.imp k q
end

/-! ### the judgements -/
section
variable (g : Gb)
def PoE (F : Hp) (Q : D → Mem → Prop) : VK := fun v H => ∃ F' M d, Ex F F' ∧ Sto g.K F' M H ∧ Rep g.K F' d v ∧ Q d M
def PoT (F : Hp) (Q : Bool → Mem → Prop) : Bool → Hp → Prop := fun b H => ∃ F' M, Ex F F' ∧ Sto g.K F' M H ∧ Q b M
def PoA (F : Hp) (Q : List D → Mem → Prop) : List V → Hp → Prop := fun vs H => ∃ F' M ds, Ex F F' ∧ Sto g.K F' M H ∧ Reps g.K F' ds vs ∧ Q ds M
def PoN (F : Hp) (Q : Sl → Mem → Prop) : L2.St → Hp → Prop := fun σ H => ∃ F' M δ, Ex F F' ∧ Sto g.K F' M H ∧ SlotsR g.K F' δ σ ∧ Q δ M
structure Od where
  nx : Sl → Mem → Prop
  rt : D → Mem → Prop
  bk : Sl → Mem → Prop := fun _ _ => False
  ct : Sl → Mem → Prop := fun _ _ => False
def PoO (F : Hp) (O : Od) : Ends := ⟨PoN g F O.nx, PoE g F O.rt, PoN g F O.bk, PoN g F O.ct⟩
variable (c : Cz)
def EX (e : Expr) (δ : Sl) (M : Mem) (Q : D → Mem → Prop) : Prop := ∀ X F0, Good g c X F0 → ∀ F σ H, Ex F0 F → Sto g.K F M H → SlotsR g.K F δ σ → wE X e σ H (PoE g F Q)
def TX (e : Expr) (δ : Sl) (M : Mem) (Q : Bool → Mem → Prop) : Prop := ∀ X F0, Good g c X F0 → ∀ F σ H, Ex F0 F → Sto g.K F M H → SlotsR g.K F δ σ → wT X e σ H (PoT g F Q)
def WT (e : Expr) (δ : Sl) (M : Mem) (Q : Bool → Mem → Prop) : Prop := ∀ X F0, Good g c X F0 → ∀ F σ H, Ex F0 F → Sto g.K F M H → SlotsR g.K F δ σ → wW X e σ H (PoT g F Q)
def AX (es : List Expr) (δ : Sl) (M : Mem) (Q : List D → Mem → Prop) : Prop := ∀ X F0, Good g c X F0 → ∀ F σ H, Ex F0 F → Sto g.K F M H → SlotsR g.K F δ σ → wA X es σ H (PoA g F Q)
def GX (tg : Expr) (d : D) (δ : Sl) (M : Mem) (Q : Sl → Mem → Prop) : Prop := ∀ X F0, Good g c X F0 → ∀ F σ H v, Ex F0 F → Sto g.K F M H → SlotsR g.K F δ σ → Rep g.K F d v → wG X tg v σ H (PoN g F Q)
def GXs (ts : List Expr) (ds : List D) (δ : Sl) (M : Mem) (Q : Sl → Mem → Prop) : Prop := ∀ X F0, Good g c X F0 → ∀ F σ H vs, Ex F0 F → Sto g.K F M H → SlotsR g.K F δ σ → Reps g.K F ds vs → wGs X ts vs σ H (PoN g F Q)
def SX (st : Stmt) (δ : Sl) (M : Mem) (O : Od) : Prop := ∀ X F0, Good g c X F0 → ∀ F σ H, Ex F0 F → Sto g.K F M H → SlotsR g.K F δ σ → wS X st (PoO g F O) σ H
def SXs (st : List Stmt) (δ : Sl) (M : Mem) (O : Od) : Prop := ∀ X F0, Good g c X F0 → ∀ F σ H, Ex F0 F → Sto g.K F M H → SlotsR g.K F δ σ → wSs X st (PoO g F O) σ H
/-- by values: a two-place operation, a call, .. -/
def D2 (r : R2) (x y : D) (M : Mem) (Q : D → Mem → Prop) : Prop := ∀ Fa F H v u, Ex Fa F → Sto g.K F M H → Rep g.K F x v → Rep g.K F y u → r v u H (PoE g Fa Q)
def D1 (r : V → Hp → VK → Prop) (x : D) (M : Mem) (Q : D → Mem → Prop) : Prop := ∀ Fa F H v, Ex Fa F → Sto g.K F M H → Rep g.K F x v → r v H (PoE g Fa Q)
def DA (r : List V → Hp → VK → Prop) (ds : List D) (M : Mem) (Q : D → Mem → Prop) : Prop := ∀ Fa F H vs, Ex Fa F → Sto g.K F M H → Reps g.K F ds vs → r vs H (PoE g Fa Q)
def DM (r : V → List V → Hp → VK → Prop) (x : D) (ds : List D) (M : Mem) (Q : D → Mem → Prop) : Prop := ∀ Fa F H v vs, Ex Fa F → Sto g.K F M H → Rep g.K F x v → Reps g.K F ds vs → r v vs H (PoE g Fa Q)
end
section
variable {g : Gb} {c : Cz} {F F' F'' H : Hp} {M : Mem}
theorem PoE.back {Q : D → Mem → Prop} {v : V} (e : Ex F F') (h : PoE g F' Q v H) : PoE g F Q v H := by
  obtain ⟨F1, M1, d, e1, r⟩ := h
  exact ⟨F1, M1, d, e.trans e1, r⟩
theorem PoT.back {Q : Bool → Mem → Prop} {v : Bool} (e : Ex F F') (h : PoT g F' Q v H) : PoT g F Q v H := by
  obtain ⟨F1, M1, e1, r⟩ := h
  exact ⟨F1, M1, e.trans e1, r⟩
theorem PoA.back {Q : List D → Mem → Prop} {v : List V} (e : Ex F F') (h : PoA g F' Q v H) : PoA g F Q v H := by
  obtain ⟨F1, M1, d, e1, r⟩ := h
  exact ⟨F1, M1, d, e.trans e1, r⟩
theorem PoN.back {Q : Sl → Mem → Prop} {σ : L2.St} (e : Ex F F') (h : PoN g F' Q σ H) : PoN g F Q σ H := by
  obtain ⟨F1, M1, d, e1, r⟩ := h
  exact ⟨F1, M1, d, e.trans e1, r⟩
theorem PoO.back {O : Od} (e : Ex F F') : EImp (PoO g F' O) (PoO g F O) := ⟨fun _ _ h => PoN.back e h, fun _ _ h => PoE.back e h, fun _ _ h => PoN.back e h, fun _ _ h => PoN.back e h⟩
theorem PoE.imp {Q Q' : D → Mem → Prop} {v : V} (k : ∀ d M, Q d M → Q' d M) (h : PoE g F Q v H) : PoE g F Q' v H := by
  obtain ⟨F1, M1, d, e1, a, b, q⟩ := h
  exact ⟨F1, M1, d, e1, a, b, k _ _ q⟩
theorem PoT.imp {Q Q' : Bool → Mem → Prop} {v : Bool} (k : ∀ d M, Q d M → Q' d M) (h : PoT g F Q v H) : PoT g F Q' v H := by
  obtain ⟨F1, M1, e1, a, q⟩ := h
  exact ⟨F1, M1, e1, a, k _ _ q⟩
theorem PoA.imp {Q Q' : List D → Mem → Prop} {v : List V} (k : ∀ d M, Q d M → Q' d M) (h : PoA g F Q v H) : PoA g F Q' v H := by
  obtain ⟨F1, M1, d, e1, a, b, q⟩ := h
  exact ⟨F1, M1, d, e1, a, b, k _ _ q⟩
theorem PoN.imp {Q Q' : Sl → Mem → Prop} {σ : L2.St} (k : ∀ d M, Q d M → Q' d M) (h : PoN g F Q σ H) : PoN g F Q' σ H := by
  obtain ⟨F1, M1, d, e1, a, b, q⟩ := h
  exact ⟨F1, M1, d, e1, a, b, k _ _ q⟩
structure OImp (O O' : Od) : Prop where
  nx : ∀ δ M, O.nx δ M → O'.nx δ M
  rt : ∀ d M, O.rt d M → O'.rt d M
  bk : ∀ δ M, O.bk δ M → O'.bk δ M
  ct : ∀ δ M, O.ct δ M → O'.ct δ M
theorem PoO.imp {O O' : Od} (k : OImp O O') : EImp (PoO g F O) (PoO g F O') := ⟨fun _ _ h => PoN.imp k.nx h, fun _ _ h => PoE.imp k.rt h, fun _ _ h => PoN.imp k.bk h, fun _ _ h => PoN.imp k.ct h⟩
theorem EX.imp {e : Expr} {δ : Sl} {Q Q' : D → Mem → Prop} (h : EX g c e δ M Q) (k : ∀ d M, Q d M → Q' d M) : EX g c e δ M Q' := fun X F0 G F σ H a b d => wE_mono (h X F0 G F σ H a b d) fun _ _ q => PoE.imp k q
theorem TX.imp {e : Expr} {δ : Sl} {Q Q' : Bool → Mem → Prop} (h : TX g c e δ M Q) (k : ∀ d M, Q d M → Q' d M) : TX g c e δ M Q' := fun X F0 G F σ H a b d => wT_mono (h X F0 G F σ H a b d) fun _ _ q => PoT.imp k q
theorem AX.imp {e : List Expr} {δ : Sl} {Q Q' : List D → Mem → Prop} (h : AX g c e δ M Q) (k : ∀ d M, Q d M → Q' d M) : AX g c e δ M Q' := fun X F0 G F σ H a b d => wA_mono (h X F0 G F σ H a b d) fun _ _ q => PoA.imp k q
theorem GX.imp {e : Expr} {x : D} {δ : Sl} {Q Q' : Sl → Mem → Prop} (h : GX g c e x δ M Q) (k : ∀ d M, Q d M → Q' d M) : GX g c e x δ M Q' := fun X F0 G F σ H v a b d r => wG_mono (h X F0 G F σ H v a b d r) fun _ _ q => PoN.imp k q
theorem SX.imp {st : Stmt} {δ : Sl} {O O' : Od} (h : SX g c st δ M O) (k : OImp O O') : SX g c st δ M O' := fun X F0 G F σ H a b d => wS_mono (h X F0 G F σ H a b d) (PoO.imp k)
theorem SXs.imp {st : List Stmt} {δ : Sl} {O O' : Od} (h : SXs g c st δ M O) (k : OImp O O') : SXs g c st δ M O' := fun X F0 G F σ H a b d => wSs_mono (h X F0 G F σ H a b d) (PoO.imp k)
/-- forgetting slots, memory -/
theorem SXs.weak {st : List Stmt} {δ δ' : Sl} {M' : Mem} {O : Od} (h : SXs g c st δ' M' O) (hl : δ'.length = δ.length) (hd : ∀ (i : Nat) d, δ'[i]? = some (some d) → δ[i]? = some (some d)) (hm : MSub M' M) : SXs g c st δ M O :=
  fun X F0 G F σ H a b d => h X F0 G F σ H a (b.sub hm) (d.weak hl hd)
end

/-! ### names, constants -/
section
variable {g : Gb} {c : Cz} {δ : Sl} {M : Mem} {Q : D → Mem → Prop} {pos : Pos}
def visB (sc : Scope) (x : Str) : Bool := match sc.names.lookup x with
  | some .local => true
  | some .cell => true
  | some .free => true
  | _ => false
theorem vis_of {sc : Scope} {x : Str} (h : visB sc x = true) : Vis sc x := by
  unfold visB at h
  unfold Vis
  split at h
  · rename_i e
    exact Or.inl e
  · rename_i e
    exact Or.inr (Or.inl e)
  · rename_i e
    exact Or.inr (Or.inr e)
  · cases h
def gloB (sc : Scope) (x : Str) : Bool := match sc.names.lookup x with
  | some .globalImplicit => true
  | _ => false
theorem glo_of {sc : Scope} {x : Str} (h : gloB sc x = true) : sc.names.lookup x = some .globalImplicit := by
  unfold gloB at h
  split at h
  · rename_i e
    exact e
  · cases h
theorem Good.gl {X : Cx} {F0 : Hp} {x : Str} (G : Good g c X F0) (h : gloB c.sc x = true) : Gl X x := by
  show X.env.scope.names.lookup x = _
  rw [G.sc]
  exact glo_of h
theorem Good.vis {X : Cx} {F0 : Hp} {x : Str} (G : Good g c X F0) (h : visB c.sc x = true) : Vis X.env.scope x := by
  rw [G.sc]
  exact vis_of h
theorem ex_name {i : Nat} {x : Str} {d : D} (hN : c.N[i]? = some x) (hv : visB c.sc x = true) (hd : δ[i]? = some (some d)) (q : Q d M) (h1 : (x == ("__debug__" : Str)) = false := by decide) (h2 : (x == ("__classdict__" : Str)) = false := by decide) : EX g c (.Name x pos) δ M Q := by
  intro X F0 G F σ H e st sl
  obtain ⟨v, hs, r⟩ := sl.get i d hd
  exact wE_of (pe_var (i := i) (by rw [G.N]; exact hN) (G.vis hv) h1 h2) ⟨v, hs, F, M, d, Evl.Ex.refl F, st, r, q⟩
theorem ex_int {i j} (q : Q (.int i) M) : EX g c (.Constant (.int i) j pos) δ M Q := fun X F0 G F σ H e st sl => wE_of pe_int ⟨F, M, .int i, Evl.Ex.refl F, st, rfl, q⟩
theorem ex_bl {b j} (q : Q (.bl b) M) : EX g c (.Constant (.bool b) j pos) δ M Q := fun X F0 G F σ H e st sl => wE_of pe_bl ⟨F, M, .bl b, Evl.Ex.refl F, st, rfl, q⟩
theorem ex_non {j} (q : Q .non M) : EX g c (.Constant .none j pos) δ M Q := fun X F0 G F σ H e st sl => wE_of pe_non ⟨F, M, .non, Evl.Ex.refl F, st, rfl, q⟩
theorem ex_str {x j} (q : Q (.str x) M) : EX g c (.Constant (.str x) j pos) δ M Q := fun X F0 G F σ H e st sl => wE_of pe_str ⟨F, M, .str x, Evl.Ex.refl F, st, rfl, q⟩
/-- a module's constant -/
theorem ex_glob {x : Str} {v : V} {u : Value} {d : D} (hg : gloB c.sc x = true) (hm : g.mg x = some u) (r : RelV v u) (hr : ∀ F, Rep g.K F d v) (q : Q d M) (h1 : (x == ("__debug__" : Str)) = false := by decide) : EX g c (.Name x pos) δ M Q :=
  fun X F0 G F σ H e st sl => wE_of (pe_glob (v := v) (G.gl hg) (by rw [G.mg]; exact hm) r h1) ⟨F, M, d, Evl.Ex.refl F, st, hr F, q⟩

/-! ### operators -/
variable {a b : Expr}
theorem two {R : V → V → Hp → Prop} {X : Cx} {F0 F H : Hp} {σ : L2.St} {Q2 : D → D → Mem → Prop} (h : EX g c a δ M fun x M1 => EX g c b δ M1 fun y M2 => Q2 x y M2) (G : Good g c X F0) (e : Ex F0 F) (st : Sto g.K F M H) (sl : SlotsR g.K F δ σ)
    (k : ∀ F' H' M' v u x y, Ex F F' → Sto g.K F' M' H' → Rep g.K F' x v → Rep g.K F' y u → Q2 x y M' → R v u H') : wE X a σ H fun v H1 => wE X b σ H1 fun u H2 => R v u H2 := by
  refine wE_mono (h X F0 G F σ H e st sl) fun v H1 q => ?_
  obtain ⟨F1, M1, x, e1, st1, rx, h1⟩ := q
  refine wE_mono (h1 X F0 G F1 σ H1 (e.trans e1) st1 (sl.mono e1)) fun u H2 q2 => ?_
  obtain ⟨F2, M2, y, e2, st2, ry, h2⟩ := q2
  exact k F2 H2 M2 v u x y (e1.trans e2) st2 (rx.mono e2) ry h2
theorem ex_op {op : Operator} {r : R2} (ho : ∀ X : Cx, X.K = g.K → X.calm = true → OpR X (binaryOp op) r) (h : EX g c a δ M fun x M1 => EX g c b δ M1 fun y M2 => D2 g r x y M2 Q) : EX g c (.BinOp a op b pos) δ M Q :=
  fun X F0 G F σ H e st sl => wE_of (pe_op (ho X G.K G.calm) pe_wE pe_wE) (two (R := fun v u H2 => r v u H2 (PoE g F Q)) h G e st sl fun F' H' M' v u x y e1 s1 r1 r2 k => k F F' H' v u e1 s1 r1 r2)
theorem ex_un {op : UnaryOp} {r : V → Hp → VK → Prop} (ho : ∀ X : Cx, X.K = g.K → UnR X (unaryOp op) r) (h : EX g c a δ M fun x M1 => D1 g r x M1 Q) : EX g c (.UnaryOp op a pos) δ M Q := by
  intro X F0 G F σ H e st sl
  refine wE_of (pe_un (ho X G.K) pe_wE) (wE_mono (h X F0 G F σ H e st sl) fun v H1 q => ?_)
  obtain ⟨F1, M1, x, e1, st1, rx, h1⟩ := q
  exact h1 F F1 H1 v e1 st1 rx
theorem ex_cmp {op : CmpOp} {r : R2} (ho : ∀ X : Cx, X.K = g.K → X.A.units + 65 < cLine → OpR X (compareOp op) r) (h : EX g c a δ M fun x M1 => EX g c b δ M1 fun y M2 => D2 g r x y M2 Q) (hm : behindInMarks op b = false := by rfl) : EX g c (.Compare a [op] [b] pos) δ M Q :=
  fun X F0 G F σ H e st sl => wE_of (pe_cmpR (ho X G.K (by have := G.room.un; omega)) pe_wE pe_wE hm) (two (R := fun v u H2 => r v u H2 (PoE g F Q)) h G e st sl fun F' H' M' v u x y e1 s1 r1 r2 k => k F F' H' v u e1 s1 r1 r2)
theorem ex_ix {r : R2} (ho : ∀ X : Cx, X.K = g.K → IxR X r) (h : EX g c a δ M fun x M1 => EX g c b δ M1 fun y M2 => D2 g r x y M2 Q) (hs : PlainIx b := by intro _ _; rfl) : EX g c (.Subscript a b pos) δ M Q :=
  fun X F0 G F σ H e st sl => wE_of (pe_ix (ho X G.K) pe_wE pe_wE hs) (two (R := fun v u H2 => r v u H2 (PoE g F Q)) h G e st sl fun F' H' M' v u x y e1 s1 r1 r2 k => k F F' H' v u e1 s1 r1 r2)
end
end DL

set_option Elab.async false
set_option linter.all false
set_option maxRecDepth 100000
set_option maxHeartbeats 1000000
/-! # The D-layer, part 3: operators over data, tests, arguments, slices, fields -/
namespace DL
open PySem PySem.Spec PyProof.Rows L2
open Evl (Ex)
variable {g : Gb} {c : Cz} {δ : Sl} {M : Mem} {Q : D → Mem → Prop} {pos : Pos} {a b : Expr}

/-- the list that x is, as it stands -/
def LstD (M : Mem) (x : D) (ds : List D) : Prop := match x with
  | .lst xs => xs = ds
  | .ref a => M a = some (.lst ds)
  | _ => False
theorem LstD.rep {F H : Hp} {x : D} {ds : List D} {v : V} (h : LstD M x ds) (st : Sto g.K F M H) (r : Rep g.K F x v) : ∃ p vs, v = .ref p ∧ H p = some (.lst vs) ∧ Reps g.K F ds vs := by
  cases x with
  | lst xs =>
    have h : xs = ds := h
    obtain ⟨p, vs, h1, h2, h3⟩ := r
    rw [← h]
    exact ⟨p, vs, h1, st.ex _ _ h2, h3⟩
  | ref a =>
    have h : M a = some (.lst ds) := h
    have r : v = .ref a := r
    obtain ⟨_, vs, h1, h2⟩ := st.mem a _ h
    exact ⟨a, vs, r, h1, h2⟩
  | _ => exact absurd h (fun z => z)
/-- a list, a tuple, the script: what is read item by item -/
def SeqD (M : Mem) (x : D) (ds : List D) : Prop := match x with
  | .lst xs => xs = ds
  | .tup xs => xs = ds
  | .fro xs => xs = ds
  | .ref a => M a = some (.lst ds)
  | _ => False
theorem SeqD.rep {F H : Hp} {x : D} {ds : List D} {v : V} (h : SeqD M x ds) (st : Sto g.K F M H) (r : Rep g.K F x v) : ∃ p vs, v = .ref p ∧ (SqL g.K H p vs ∨ SqT g.K H p vs) ∧ Reps g.K F ds vs := by
  cases x with
  | lst xs =>
    have h : xs = ds := h
    obtain ⟨p, vs, h1, h2, h3⟩ := r
    rw [← h]
    exact ⟨p, vs, h1, Or.inl (SqL.of (st.ex _ _ h2)), h3⟩
  | fro xs =>
    have h : xs = ds := h
    obtain ⟨p, vs, h1, h2, h3⟩ := r
    rw [← h]
    exact ⟨p, vs, h1, Or.inl (Evl.ex_l st.ex h2), h3⟩
  | tup xs =>
    have h : xs = ds := h
    obtain ⟨p, vs, h1, h2, h3⟩ := r
    rw [← h]
    exact ⟨p, vs, h1, Or.inr (Evl.ex_t st.ex h2), h3⟩
  | ref a =>
    have h : M a = some (.lst ds) := h
    have r : v = .ref a := r
    obtain ⟨_, vs, h1, h2⟩ := st.mem a _ h
    exact ⟨a, vs, r, Or.inl (SqL.of h1), h2⟩
  | _ => exact absurd h (fun z => z)
/-- handing on: nothing new; a new tuple; a new list -/
theorem PoE.same {Fa F H : Hp} {d : D} {v : V} (e : Ex Fa F) (st : Sto g.K F M H) (q : Q d M) (r : Rep g.K F d v) : PoE g Fa Q v H := ⟨F, M, d, e, st, r, q⟩
theorem PoE.tup {Fa F H : Hp} {ds : List D} {vs : List V} {p : Addr} (e : Ex Fa F) (st : Sto g.K F M H) (hp : H p = none) (r : Reps g.K F ds vs) (q : Q (.tup ds) M) : PoE g Fa Q (.ref p) (upd H p (.tup vs)) := by
  obtain ⟨e1, s1⟩ := st.frozen (o := .tup vs) hp
  exact ⟨_, M, .tup ds, e.trans e1, s1, ⟨p, vs, rfl, SqT.of upd_same, r.mono e1⟩, q⟩
theorem PoE.lst {Fa F H : Hp} {ds : List D} {vs : List V} {p : Addr} (e : Ex Fa F) (st : Sto g.K F M H) (hp : H p = none) (r : Reps g.K F ds vs) (q : Q (.lst ds) M) : PoE g Fa Q (.ref p) (upd H p (.lst vs)) := by
  obtain ⟨e1, s1⟩ := st.frozen (o := .lst vs) hp
  exact ⟨_, M, .lst ds, e.trans e1, s1, ⟨p, vs, rfl, upd_same, r.mono e1⟩, q⟩
theorem PoE.new {Fa F H : Hp} {ds : List D} {vs : List V} {p : Addr} (e : Ex Fa F) (st : Sto g.K F M H) (hp : H p = none) (r : Reps g.K F ds vs) (q : M p = none → Q (.ref p) (mup M p (.lst ds))) : PoE g Fa Q (.ref p) (upd H p (.lst vs)) :=
  ⟨F, _, .ref p, e, st.newL hp r, rfl, q (st.free hp).2⟩

/-! ### + - * // % -/
def AddD (x y : D) (M : Mem) (Q : D → Mem → Prop) : Prop := match x, y with
  | .int i, .int j => Q (.int (i + j)) M
  | .str s, .str t => s.length + t.length ≤ sizeLine ∧ Q (.str (s ++ t)) M
  | .tup xs, .tup ys => xs.length + ys.length ≤ sizeLine ∧ Q (.tup (xs ++ ys)) M
  | x, y => ∃ xs ys, LstD M x xs ∧ LstD M y ys ∧ xs.length + ys.length ≤ sizeLine ∧ Q (.lst (xs ++ ys)) M
def rAddS : R2 := fun x y H Q => ∃ i j, x = .str i ∧ y = .str j ∧ i.length + j.length ≤ sizeLine ∧ Q (.str (i ++ j)) H
def rAddA (K : PySem.W.Frag) : R2 := fun x y H Q => rI0 (fun i j => .int (i + j)) x y H Q ∨ (rAddS x y H Q ∨ (rCatA K x y H Q ∨ rCat x y H Q))
theorem op_addA {X : Cx} : OpR X (binaryOp .Add) (rAddA X.K) := OpR.or op_add (OpR.or op_add_str (OpR.or op_catA op_cat))
theorem d2_addL {x y : D} {xs ys : List D} (h1 : LstD M x xs) (h2 : LstD M y ys) (hz : xs.length + ys.length ≤ sizeLine) (q : Q (.lst (xs ++ ys)) M) : D2 g (rAddA g.K) x y M Q := by
  intro Fa F H v u e st r1 r2
  obtain ⟨p, vs, rfl, hp, rv⟩ := h1.rep st r1
  obtain ⟨p', us, rfl, hp', ru⟩ := h2.rep st r2
  exact .inr (.inr (.inr ⟨p, p', vs, us, rfl, rfl, hp, hp', by rw [rv.length, ru.length]; exact hz, fun l hl => PoE.lst e st hl (rv.app ru) q⟩))
theorem d2_add {x y : D} (h : AddD x y M Q) : D2 g (rAddA g.K) x y M Q := by
  unfold AddD at h
  split at h
  · rename_i i j
    intro Fa F H v u e st r1 r2
    exact .inl ⟨i, j, r1, r2, .same e st h rfl⟩
  · rename_i s t
    intro Fa F H v u e st r1 r2
    exact .inr (.inl ⟨s, t, r1, r2, h.1, .same e st h.2 rfl⟩)
  · rename_i xs ys
    intro Fa F H v u e st r1 r2
    obtain ⟨p, vs, rfl, hp, rv⟩ := r1
    obtain ⟨p', us, rfl, hp', ru⟩ := r2
    have r1 : Rep g.K F (.tup xs) (.ref p) := ⟨p, vs, rfl, hp, rv⟩
    have r2 : Rep g.K F (.tup ys) (.ref p') := ⟨p', us, rfl, hp', ru⟩
    refine .inr (.inr (.inl ⟨p, p', vs, us, rfl, rfl, Evl.ex_t st.ex hp, Evl.ex_t st.ex hp', by rw [rv.length, ru.length]; exact h.1, fun hx => ?_, fun _ hy => ?_, fun _ _ l hl => PoE.tup e st hl (rv.app ru) h.2⟩))
    · have l1 : xs = [] := List.eq_nil_of_length_eq_zero (by rw [← rv.length, hx]; rfl)
      rw [l1] at h
      exact .same e st h.2 r2
    · have l1 : ys = [] := List.eq_nil_of_length_eq_zero (by rw [← ru.length, hy]; rfl)
      rw [l1, List.append_nil] at h
      exact .same e st h.2 r1
  · obtain ⟨xs, ys, h1, h2, hz, q⟩ := h
    exact d2_addL h1 h2 hz q
theorem ex_add (h : EX g c a δ M fun x M1 => EX g c b δ M1 fun y M2 => AddD x y M2 Q) : EX g c (.BinOp a .Add b pos) δ M Q :=
  ex_op (r := rAddA g.K) (fun X hK _ => hK ▸ op_addA) (EX.imp h fun _ _ k => EX.imp k fun _ _ k => d2_add k)
def SubD (x y : D) (M : Mem) (Q : D → Mem → Prop) : Prop := match x, y with
  | .int i, .int j => Q (.int (i - j)) M
  | _, _ => False
theorem ex_sub (h : EX g c a δ M fun x M1 => EX g c b δ M1 fun y M2 => SubD x y M2 Q) : EX g c (.BinOp a .Sub b pos) δ M Q :=
  ex_op (r := rI0 fun i j => .int (i - j)) (fun X hK _ => op_sub) (EX.imp h fun _ _ ka => EX.imp ka fun _ _ k => by
    clear h ka
    unfold SubD at k
    split at k
    · rename_i i j
      exact fun Fa F H v u e st r1 r2 => ⟨i, j, r1, r2, .same e st k rfl⟩
    · exact k.elim)
def MulD (x y : D) (M : Mem) (Q : D → Mem → Prop) : Prop := match x, y with
  | .int i, .int j => ((-(2 ^ 64) < i ∧ i < 2 ^ 64) ∨ (-(2 ^ 64) < j ∧ j < 2 ^ 64)) ∧ Q (.int (i * j)) M
  | .tup xs, .int k => xs ≠ [] ∧ 2 ≤ k ∧ k ≤ 1000 ∧ xs.length ≤ 1000 ∧ Q (.tup (List.replicate k.toNat xs).flatten) M
  | x, .int k => ∃ xs, LstD M x xs ∧ -(2 ^ 63) ≤ k ∧ k < 2 ^ 63 ∧ xs.length * k.toNat ≤ sizeLine ∧ Q (.lst (List.replicate k.toNat xs).flatten) M
  | _, _ => False
theorem Reps.rep {K : PySem.W.Frag} {F : Hp} {ds : List D} {vs : List V} (h : Reps K F ds vs) : ∀ k : Nat, Reps K F (List.replicate k ds).flatten (List.replicate k vs).flatten
  | 0 => rfl
  | k + 1 => by
    rw [List.replicate_succ, List.replicate_succ, List.flatten_cons, List.flatten_cons]
    exact h.app (Reps.rep h k)
theorem ex_mul (h : EX g c a δ M fun x M1 => EX g c b δ M1 fun y M2 => MulD x y M2 Q) : EX g c (.BinOp a .Mult b pos) δ M Q :=
  ex_op (r := fun x y H Q => rI CMul (fun i j => .int (i * j)) x y H Q ∨ (rRepT g.K x y H Q ∨ rRep x y H Q)) (fun X hK _ => hK ▸ OpR.or op_mul (OpR.or op_repT op_rep)) (EX.imp h fun _ _ ka => EX.imp ka fun _ _ k => by
    clear h ka
    unfold MulD at k
    split at k
    · rename_i i j
      exact fun Fa F H v u e st r1 r2 => .inl ⟨i, j, r1, r2, k.1, .same e st k.2 rfl⟩
    · rename_i xs k'
      obtain ⟨k0, k1, k2, k3, q⟩ := k
      intro Fa F H v u e st r1 r2
      obtain ⟨p, vs, rfl, hp, rv⟩ := r1
      refine .inr (.inl ⟨p, k', vs, rfl, r2, Evl.ex_t st.ex hp, fun z => ?_, k1, k2, by rw [rv.length]; exact k3, fun l hl => PoE.tup e st hl (rv.rep _) q⟩)
      exact k0 (List.eq_nil_of_length_eq_zero (by rw [← rv.length, z]; rfl))
    · rename_i x k' hx hy
      obtain ⟨xs, h1, k1, k2, k3, q⟩ := k
      intro Fa F H v u e st r1 r2
      obtain ⟨p, vs, rfl, hp, rv⟩ := h1.rep st r1
      exact .inr (.inr ⟨p, k', vs, rfl, r2, hp, k1, k2, by rw [rv.length]; exact k3, fun l hl => PoE.lst e st hl (rv.rep _) q⟩)
    · exact k.elim)
def ModD (x y : D) (M : Mem) (Q : D → Mem → Prop) : Prop := match x, y with
  | .int i, .int j => 0 < j ∧ Q (.int (i % j)) M
  | _, _ => False
theorem ex_mod (h : EX g c a δ M fun x M1 => EX g c b δ M1 fun y M2 => ModD x y M2 Q) : EX g c (.BinOp a .Mod b pos) δ M Q :=
  ex_op (r := rI (fun _ j => 0 < j) fun i j => .int (i % j)) (fun X hK _ => op_mod) (EX.imp h fun _ _ ka => EX.imp ka fun _ _ k => by
    clear h ka
    unfold ModD at k
    split at k
    · rename_i i j
      exact fun Fa F H v u e st r1 r2 => ⟨i, j, r1, r2, k.1, .same e st k.2 rfl⟩
    · exact k.elim)
def FdivD (x y : D) (M : Mem) (Q : D → Mem → Prop) : Prop := match x, y with
  | .int i, .int j => (0 < j ∧ j < 1073741824) ∧ Q (.int (i / j)) M
  | _, _ => False
theorem ex_fdiv (h : EX g c a δ M fun x M1 => EX g c b δ M1 fun y M2 => FdivD x y M2 Q) : EX g c (.BinOp a .FloorDiv b pos) δ M Q :=
  ex_op (r := rI CDiv fun i j => .int (i / j)) (fun X hK _ => op_fdiv) (EX.imp h fun _ _ ka => EX.imp ka fun _ _ k => by
    clear h ka
    unfold FdivD at k
    split at k
    · rename_i i j
      exact fun Fa F H v u e st r1 r2 => ⟨i, j, r1, r2, k.1, .same e st k.2 rfl⟩
    · exact k.elim)
def PowD (x y : D) (M : Mem) (Q : D → Mem → Prop) : Prop := match x, y with
  | .int i, .int j => (0 ≤ j ∧ j ≤ 1000000 ∧ i.natAbs < 2 ^ 64) ∧ Q (.int (i ^ j.toNat)) M
  | _, _ => False
theorem ex_pow (h : EX g c a δ M fun x M1 => EX g c b δ M1 fun y M2 => PowD x y M2 Q) : EX g c (.BinOp a .Pow b pos) δ M Q :=
  ex_op (r := rI CPow fun i j => .int (i ^ j.toNat)) (fun X hK _ => op_pow) (EX.imp h fun _ _ ka => EX.imp ka fun _ _ k => by
    clear h ka
    unfold PowD at k
    split at k
    · rename_i i j
      exact fun Fa F H v u e st r1 r2 => ⟨i, j, r1, r2, k.1, .same e st k.2 rfl⟩
    · exact k.elim)
def NegD (x : D) (M : Mem) (Q : D → Mem → Prop) : Prop := match x with
  | .int i => Q (.int (-i)) M
  | _ => False
theorem ex_neg (h : EX g c a δ M fun x M1 => NegD x M1 Q) : EX g c (.UnaryOp .USub a pos) δ M Q :=
  ex_un (r := rU fun i => .int (-i)) (fun X hK => un_neg) (EX.imp h fun _ _ k => by
    unfold NegD at k
    split at k
    · rename_i i
      exact fun Fa F H v e st r1 => ⟨i, r1, .same e st k rfl⟩
    · exact k.elim)

/-! ### comparisons -/
def IntD (f : Int → Int → Bool) (x y : D) (M : Mem) (Q : D → Mem → Prop) : Prop := match x, y with
  | .int i, .int j => Q (.bl (f i j)) M
  | _, _ => False
theorem d2_int {f : Int → Int → Bool} {x y : D} (k : IntD f x y M Q) : D2 g (rI0 fun i j => .bl (f i j)) x y M Q := by
  unfold IntD at k
  split at k
  · rename_i i j
    exact fun Fa F H v u e st r1 r2 => ⟨i, j, r1, r2, .same e st k rfl⟩
  · exact k.elim
theorem ex_lt (h : EX g c a δ M fun x M1 => EX g c b δ M1 fun y M2 => IntD (fun i j => decide (i < j)) x y M2 Q) : EX g c (.Compare a [.Lt] [b] pos) δ M Q :=
  ex_cmp (r := rI0 fun i j => .bl (decide (i < j))) (fun X hK _ => op_lt) (EX.imp h fun _ _ k => EX.imp k fun _ _ k => d2_int k) (nomark _)
theorem ex_le (h : EX g c a δ M fun x M1 => EX g c b δ M1 fun y M2 => IntD (fun i j => decide (i ≤ j)) x y M2 Q) : EX g c (.Compare a [.LtE] [b] pos) δ M Q :=
  ex_cmp (r := rI0 fun i j => .bl (decide (i ≤ j))) (fun X hK _ => op_le) (EX.imp h fun _ _ k => EX.imp k fun _ _ k => d2_int k) (nomark _)
theorem ex_gt (h : EX g c a δ M fun x M1 => EX g c b δ M1 fun y M2 => IntD (fun i j => decide (j < i)) x y M2 Q) : EX g c (.Compare a [.Gt] [b] pos) δ M Q :=
  ex_cmp (r := rI0 fun i j => .bl (decide (j < i))) (fun X hK _ => op_gt) (EX.imp h fun _ _ k => EX.imp k fun _ _ k => d2_int k) (nomark _)
theorem ex_ge (h : EX g c a δ M fun x M1 => EX g c b δ M1 fun y M2 => IntD (fun i j => decide (j ≤ i)) x y M2 Q) : EX g c (.Compare a [.GtE] [b] pos) δ M Q :=
  ex_cmp (r := rI0 fun i j => .bl (decide (j ≤ i))) (fun X hK _ => op_ge) (EX.imp h fun _ _ k => EX.imp k fun _ _ k => d2_int k) (nomark _)
mutual
def toP (M : Mem) : D → Option PyData
  | .non => some .none
  | .bl b => some (.bool b)
  | .int i => some (.int i)
  | .str x => some (.str x)
  | .tup ds => (toPs M ds).map .tuple
  | .lst ds => (toPs M ds).map .list
  | _ => none
def toPs (M : Mem) : List D → Option (List PyData)
  | [] => some []
  | d :: ds => (toP M d).bind fun p => (toPs M ds).map fun ps => p :: ps
end
mutual
theorem toP_dp {F H : Hp} (st : Sto g.K F M H) : ∀ {d : D} {v : V} {p : PyData}, Rep g.K F d v → toP M d = some p → Dp g.K H v p
  | .non, v, p, r, h => by
    have r : v = .non := r
    have h : some PyData.none = some p := h
    rw [r, ← Option.some.inj h]
    exact .non
  | .bl b, v, p, r, h => by
    have r : v = .bl b := r
    have h : some (PyData.bool b) = some p := h
    rw [r, ← Option.some.inj h]
    exact .bl b
  | .int i, v, p, r, h => by
    have r : v = .int i := r
    have h : some (PyData.int i) = some p := h
    rw [r, ← Option.some.inj h]
    exact .int i
  | .str x, v, p, r, h => by
    have r : v = .str x := r
    have h : some (PyData.str x) = some p := h
    rw [r, ← Option.some.inj h]
    exact .str x
  | .tup ds, v, p, r, h => by
    obtain ⟨a, vs, h1, h2, h3⟩ := r
    have h : (toPs M ds).map PyData.tuple = some p := h
    obtain ⟨ps, e1, e2⟩ := Option.map_eq_some_iff.mp h
    rw [h1, ← e2]
    exact .tup (Evl.ex_t st.ex h2) (toPs_dp st h3 e1)
  | .lst ds, v, p, r, h => by
    obtain ⟨a, vs, h1, h2, h3⟩ := r
    have h : (toPs M ds).map PyData.list = some p := h
    obtain ⟨ps, e1, e2⟩ := Option.map_eq_some_iff.mp h
    rw [h1, ← e2]
    exact .lst (SqL.of (st.ex _ _ h2)) (toPs_dp st h3 e1)
  | .fro _, _, _, _, h => nomatch h
  | .ref _, _, _, _, h => nomatch h
  | .ins _ _ _, _, _, _, h => nomatch h
theorem toPs_dp {F H : Hp} (st : Sto g.K F M H) : ∀ {ds : List D} {vs : List V} {ps : List PyData}, Reps g.K F ds vs → toPs M ds = some ps → DpAll g.K H vs ps
  | [], vs, ps, r, h => by
    have r : vs = [] := r
    have h : some ([] : List PyData) = some ps := h
    rw [r, ← Option.some.inj h]
    exact .nil
  | d :: ds, vs, ps, r, h => by
    obtain ⟨v, us, h1, h2, h3⟩ := r
    have h : ((toP M d).bind fun p => (toPs M ds).map fun ps => p :: ps) = some ps := h
    obtain ⟨p, e1, e2⟩ := Option.bind_eq_some_iff.mp h
    obtain ⟨qs, e3, e4⟩ := Option.map_eq_some_iff.mp e2
    rw [h1, ← e4]
    exact .cons (toP_dp st h2 e1) (toPs_dp st h3 e3)
end
theorem toPD {F H : Hp} {x : D} {xs : List D} {v : V} {ps : List PyData} (h : LstD M x xs) (st : Sto g.K F M H) (r : Rep g.K F x v) (hp : toPs M xs = some ps) : Dp g.K H v (.list ps) := by
  obtain ⟨p, vs, rfl, h1, h2⟩ := h.rep st r
  exact .lst (SqL.of h1) (toPs_dp st h2 hp)
def EqD (f : Bool → Bool) (x y : D) (M : Mem) (Q : D → Mem → Prop) : Prop := match x, y with
  | .int i, .int j => Q (.bl (f (decide (i = j)))) M
  | .str i, .str j => Q (.bl (f (decide (i = j)))) M
  | x, y => ∃ xs ys ps qs, LstD M x xs ∧ LstD M y ys ∧ toPs M xs = some ps ∧ toPs M ys = some qs ∧ SeqAt.shaped (.list ps) = true ∧ SeqAt.shaped (.list qs) = true ∧ Q (.bl (f (PyData.eqv (.list ps) (.list qs)))) M
theorem ex_eq (h : EX g c a δ M fun x M1 => EX g c b δ M1 fun y M2 => EqD id x y M2 Q) : EX g c (.Compare a [.Eq] [b] pos) δ M Q :=
  ex_cmp (r := fun x y H Q => rEq x y H Q ∨ rEqD g.K x y H Q) (fun X hK hu => hK ▸ OpR.or op_eq (op_eqD (by omega))) (EX.imp h fun _ _ ka => EX.imp ka fun _ _ k => by
    clear h ka
    unfold EqD at k
    split at k
    · rename_i i j
      intro Fa F H v u e st r1 r2
      have r1 : v = .int i := r1
      have r2 : u = .int j := r2
      rw [r1, r2]
      exact .inl ⟨rfl, .same (d := .bl (decide (i = j))) e st k (by rw [dec_int]; show V.bl _ = V.bl _; rw [Bool.beq_eq_decide_eq])⟩
    · rename_i i j
      intro Fa F H v u e st r1 r2
      have r1 : v = .str i := r1
      have r2 : u = .str j := r2
      rw [r1, r2]
      exact .inl ⟨rfl, .same (d := .bl (decide (i = j))) e st k (by rw [dec_str]; show V.bl _ = V.bl _; rw [Bool.beq_eq_decide_eq])⟩
    · obtain ⟨xs, ys, ps, qs, h1, h2, h3, h4, h5, h6, q⟩ := k
      intro Fa F H v u e st r1 r2
      exact .inr ⟨_, _, toPD h1 st r1 h3, toPD h2 st r2 h4, h5, h6, .same e st q rfl⟩) (nomark _)
theorem ex_ne (h : EX g c a δ M fun x M1 => EX g c b δ M1 fun y M2 => EqD not x y M2 Q) : EX g c (.Compare a [.NotEq] [b] pos) δ M Q :=
  ex_cmp (r := fun x y H Q => rNe x y H Q ∨ rNeD g.K x y H Q) (fun X hK hu => hK ▸ OpR.or op_ne (op_neD (by omega))) (EX.imp h fun _ _ ka => EX.imp ka fun _ _ k => by
    clear h ka
    unfold EqD at k
    split at k
    · rename_i i j
      intro Fa F H v u e st r1 r2
      have r1 : v = .int i := r1
      have r2 : u = .int j := r2
      rw [r1, r2]
      exact .inl ⟨rfl, .same (d := .bl (!decide (i = j))) e st k (by rw [dec_int]; show V.bl _ = V.bl _; rw [Bool.beq_eq_decide_eq])⟩
    · rename_i i j
      intro Fa F H v u e st r1 r2
      have r1 : v = .str i := r1
      have r2 : u = .str j := r2
      rw [r1, r2]
      exact .inl ⟨rfl, .same (d := .bl (!decide (i = j))) e st k (by rw [dec_str]; show V.bl _ = V.bl _; rw [Bool.beq_eq_decide_eq])⟩
    · obtain ⟨xs, ys, ps, qs, h1, h2, h3, h4, h5, h6, q⟩ := k
      intro Fa F H v u e st r1 r2
      exact .inr ⟨_, _, toPD h1 st r1 h3, toPD h2 st r2 h4, h5, h6, .same e st q rfl⟩) (nomark _)
/-- is None -/
def isNon : D → Bool
  | .non => true
  | _ => false
theorem rep_non {F : Hp} {d : D} {v : V} (r : Rep g.K F d v) : decide (v = .non) = isNon d := by
  cases d with
  | non =>
    rw [show v = .non from r]
    rfl
  | bl b =>
    rw [show v = .bl b from r]
    rfl
  | int b =>
    rw [show v = .int b from r]
    rfl
  | str b =>
    rw [show v = .str b from r]
    rfl
  | ref b =>
    rw [show v = .ref b from r]
    rfl
  | tup ds =>
    obtain ⟨p, vs, h, _⟩ := r
    rw [h]
    rfl
  | lst ds =>
    obtain ⟨p, vs, h, _⟩ := r
    rw [h]
    rfl
  | fro ds =>
    obtain ⟨p, vs, h, _⟩ := r
    rw [h]
    rfl
  | ins C ns ds =>
    obtain ⟨p, dx, vs, h, _⟩ := r
    rw [h]
    rfl
theorem ex_isN {j pos'} (h : EX g c a δ M fun x M1 => Q (.bl (isNon x)) M1) : EX g c (.Compare a [.Is] [.Constant .none j pos'] pos) δ M Q := by
  intro X F0 G F σ H e st sl
  refine wE_of (pe_cmp (pc_isN pe_wE)) (wE_mono (h X F0 G F σ H e st sl) fun v H1 q => ?_)
  obtain ⟨F1, M1, x, e1, st1, rx, q⟩ := q
  exact ⟨F1, M1, .bl (isNon x), e1, st1, by rw [rep_non rx]; rfl, q⟩
theorem ex_notN {j pos'} (h : EX g c a δ M fun x M1 => Q (.bl (!isNon x)) M1) : EX g c (.Compare a [.IsNot] [.Constant .none j pos'] pos) δ M Q := by
  intro X F0 G F σ H e st sl
  refine wE_of (pe_cmp (pc_notN pe_wE)) (wE_mono (h X F0 G F σ H e st sl) fun v H1 q => ?_)
  obtain ⟨F1, M1, x, e1, st1, rx, q⟩ := q
  exact ⟨F1, M1, .bl (!isNon x), e1, st1, by rw [rep_non rx]; rfl, q⟩
/-- flat data -/
def fv : D → V
  | .non => .non
  | .bl b => .bl b
  | .int i => .int i
  | .str x => .str x
  | _ => .ref 0
theorem rep_fv {F : Hp} {d : D} {v : V} (r : Rep g.K F d v) (h : flatV (fv d) = true) : v = fv d := by
  cases d with
  | non => exact r
  | bl b => exact r
  | int b => exact r
  | str b => exact r
  | _ => cases h
theorem reps_fv {F : Hp} : ∀ {ds : List D} {vs : List V}, Reps g.K F ds vs → (ds.map fv).all flatV = true → vs = ds.map fv
  | [], _, r, _ => r
  | d :: ds, _, ⟨v, us, h1, h2, h3⟩, h => by
    rw [List.map_cons, List.all_cons, Bool.and_eq_true] at h
    rw [h1, rep_fv h2 h.1, reps_fv h3 h.2]
    rfl
def InD (x y : D) (M : Mem) (Q : Bool → Mem → Prop) : Prop := match y with
  | .str z => ∃ k, x = .str ⟨#[k]⟩ ∧ Q (decide (k ∈ z.cps.toList)) M
  | y => ∃ ds, SeqD M y ds ∧ flatV (fv x) = true ∧ (ds.map fv).all flatV = true ∧ Q (inV (fv x) (ds.map fv)) M
def rInS : R2 := fun x y H Q => ∃ (k : Nat) (z : Str), x = .str ⟨#[k]⟩ ∧ y = .str z ∧ Q (.bl (decide (k ∈ z.cps.toList))) H
theorem d2_in {x y : D} (k : InD x y M fun b M => Q (.bl b) M) : D2 g (fun x y H Q => rIn g.K false x y H Q ∨ rInS x y H Q) x y M Q := by
  unfold InD at k
  split at k
  · rename_i z
    obtain ⟨kk, rfl, k⟩ := k
    intro Fa F H v u e st r1 r2
    exact .inr ⟨kk, z, r1, r2, .same e st k rfl⟩
  · obtain ⟨ds, h1, h2, h3, q⟩ := k
    intro Fa F H v u e st r1 r2
    obtain ⟨p, vs, rfl, hq, rv⟩ := h1.rep st r2
    have e1 := rep_fv r1 h2
    have e2 := reps_fv rv h3
    rw [e1]
    rw [e2] at hq
    exact .inl ⟨p, _, rfl, hq, h2, h3, .same e st q rfl⟩
theorem ex_in (h : EX g c a δ M fun x M1 => EX g c b δ M1 fun y M2 => InD x y M2 fun b M => Q (.bl b) M) (hm : behindInMarks .In b = false := by rfl) : EX g c (.Compare a [.In] [b] pos) δ M Q :=
  ex_cmp (r := fun x y H Q => rIn g.K false x y H Q ∨ rInS x y H Q) (fun X hK hu => hK ▸ OpR.or op_in_seq op_in_sign) (EX.imp h fun _ _ k => EX.imp k fun _ _ k => d2_in k) hm

/-! ### x[i] -/
def IxD (x y : D) (M : Mem) (Q : D → Mem → Prop) : Prop := match x, y with
  | .str z, .int i => z.length ≤ sizeLine ∧ ∃ k, atI z.cps.toList i = some k ∧ Q (.str ⟨#[k]⟩) M
  | x, .int i => ∃ ds d, SeqD M x ds ∧ atI ds i = some d ∧ Q d M
  | _, _ => False
theorem atI_rep {F : Hp} {ds : List D} {vs : List V} {i : Int} {d : D} (r : Reps g.K F ds vs) (h : atI ds i = some d) : ∃ v, atI vs i = some v ∧ Rep g.K F d v := by
  unfold atI at h ⊢
  rw [r.length]
  obtain ⟨j, h1, h2⟩ := Option.bind_eq_some_iff.mp h
  obtain ⟨v, e1, e2⟩ := r.get h2
  exact ⟨v, by rw [h1]; exact e1, e2⟩
theorem ex_ixa (h : EX g c a δ M fun x M1 => EX g c b δ M1 fun y M2 => IxD x y M2 Q) (hs : PlainIx b := by intro _ _; rfl) : EX g c (.Subscript a b pos) δ M Q :=
  ex_ix (r := rIx g.K) (fun X hK => hK ▸ ix_seq) (EX.imp h fun _ _ ka => EX.imp ka fun _ _ k => by
    clear h ka
    unfold IxD at k
    split at k
    · rename_i z i
      obtain ⟨hz, kk, hk, q⟩ := k
      intro Fa F H v u e st r1 r2
      exact .inr (.inr ⟨z, i, kk, r1, r2, hz, hk, .same e st q rfl⟩)
    · rename_i x i _
      obtain ⟨ds, d, h1, h2, q⟩ := k
      intro Fa F H v u e st r1 r2
      obtain ⟨p, vs, rfl, hq, rv⟩ := h1.rep st r1
      obtain ⟨w, hw, rw'⟩ := atI_rep rv h2
      rcases hq with hq | hq
      · exact .inl ⟨p, vs, i, w, rfl, r2, hq, hw, .same e st q rw'⟩
      · exact .inr (.inl ⟨p, vs, i, w, rfl, r2, hq, hw, .same e st q rw'⟩)
    · exact k.elim) hs

/-! ### slices -/
def wO (X : Cx) (e : Option Expr) : TO := match e with
  | none => tNoPart
  | some e => tPart (wE X e)
theorem po_wO {X : Cx} : ∀ {e : Option Expr}, PO X e (wO X e)
  | none => po_none
  | some _ => po_some pe_wE
/-- an end of a slice -/
def OX (g : Gb) (c : Cz) (e : Option Expr) (δ : Sl) (M : Mem) (Q : Option Int → Mem → Prop) : Prop := match e with
  | none => Q none M
  | some e => EX g c e δ M fun d M1 => ∃ i, d = .int i ∧ Q (some i) M1
def cutD (xs : List D) (lo hi : Option Int) : List D := (xs.drop (HT.sIx xs.length 0 lo)).take (HT.sIx xs.length xs.length hi - HT.sIx xs.length 0 lo)
theorem cut_rep {F : Hp} {ds : List D} {vs : List V} (r : Reps g.K F ds vs) (lo hi : Option Int) : Reps g.K F (cutD ds lo hi) (cutV vs lo hi) := by
  unfold cutD cutV
  rw [r.length]
  exact (r.drop _).take _
def SliD (x : D) (lo hi : Option Int) (M : Mem) (Q : D → Mem → Prop) : Prop := match x with
  | .str z => z.length ≤ sizeLine ∧ Q (.str (cutS z lo hi)) M
  | .tup ds => Q (.tup (cutD ds lo hi)) M
  | x => ∃ ds, LstD M x ds ∧ Q (.lst (cutD ds lo hi)) M
theorem ex_slice {lo hi : Option Expr} {p2 : Pos} (h : EX g c a δ M fun x M1 => OX g c lo δ M1 fun l M2 => OX g c hi δ M2 fun u M3 => SliD x l u M3 Q) : EX g c (.Subscript a (.Slice lo hi none p2) pos) δ M Q := by
  intro X F0 G F σ H e st sl
  have hr : SlR X (fun x lo hi H Q => rSlS x lo hi H Q ∨ (rSlA X.K x lo hi H Q ∨ rSlL X.K x lo hi H Q)) := SlR.or sl_str (SlR.or sl_tupA sl_list)
  refine wE_of (pe_slice hr pe_wE po_wO po_wO) (wE_mono (h X F0 G F σ H e st sl) fun v H1 q => ?_)
  obtain ⟨F1, M1, x, e1, st1, rx, q⟩ := q
  have step : ∀ {o : Option Expr} {F H : Hp} {M : Mem} {Q2 : Option Int → Mem → Prop} {R : Option Int → Hp → Prop}, OX g c o δ M Q2 → Ex F0 F → Sto g.K F M H → SlotsR g.K F δ σ → (∀ i F' M' H', Ex F F' → Sto g.K F' M' H' → Q2 i M' → R i H') → wO X o σ H R := by
    intro o F H M Q2 R hq eF sF slF k
    cases o with
    | none => exact k none F M H (Evl.Ex.refl F) sF hq
    | some o =>
      refine wE_mono (hq X F0 G F σ H eF sF slF) fun u H2 q2 => ?_
      obtain ⟨F2, M2, d, e2, st2, r2, i, hd, q2⟩ := q2
      subst hd
      exact ⟨i, r2, k (some i) F2 M2 H2 e2 st2 q2⟩
  refine step q (e.trans e1) st1 (sl.mono e1) fun l F2 M2 H2 e2 st2 q2 => ?_
  refine step q2 ((e.trans e1).trans e2) st2 (sl.mono (e1.trans e2)) fun u F3 M3 H3 e3 st3 q3 => ?_
  have rx3 := rx.mono (e2.trans e3)
  have ee := (e1.trans e2).trans e3
  unfold SliD at q3
  split at q3
  · rename_i z
    exact .inl ⟨z, rx3, q3.1, .same ee st3 q3.2 rfl⟩
  · rename_i ds
    obtain ⟨p, vs, rfl, hp, rv⟩ := rx3
    refine .inr (.inl ⟨p, vs, rfl, by rw [G.K]; exact Evl.ex_t st3.ex hp, fun hw => ?_, fun _ l' hl => PoE.tup ee st3 hl (cut_rep rv _ _) q3⟩)
    have ec : cutD ds l u = ds := by
      unfold cutD
      rw [rv.length] at hw
      rw [hw.1, hw.2]
      simp
    rw [ec] at q3
    exact .same ee st3 q3 ⟨p, vs, rfl, hp, rv⟩
  · obtain ⟨ds, h1, q3⟩ := q3
    obtain ⟨p, vs, rfl, hp, rv⟩ := h1.rep st3 rx3
    exact .inr (.inr ⟨p, vs, rfl, SqL.of hp, fun l' hl => PoE.lst ee st3 hl (cut_rep rv _ _) q3⟩)
end DL

set_option Elab.async false
set_option linter.all false
set_option maxRecDepth 100000
set_option maxHeartbeats 1000000
/-! # The D-layer, part 4: tests, truth values, arguments, displays, fields, calls of defs -/
namespace DL
open PySem PySem.Spec PyProof.Rows L2
open Evl (Ex)
variable {g : Gb} {c : Cz} {δ : Sl} {M : Mem} {Q : D → Mem → Prop} {R : Bool → Mem → Prop} {pos : Pos} {a b e : Expr} {rest es : List Expr}

/-! ### tests -/
theorem cnd {b : Bool} {A B : Prop} (h1 : b = true → A) (h2 : b = false → B) : cond b A B := by
  cases b with
  | true => exact h1 rfl
  | false => exact h2 rfl
def BlD (R : Bool → Mem → Prop) (d : D) (M : Mem) : Prop := match d with
  | .bl b => R b M
  | _ => False
theorem BlD.rep {F H : Hp} {d : D} {v : V} (h : BlD R d M) (r : Rep g.K F d v) : ∃ b, v = .bl b ∧ R b M := by
  cases d with
  | bl b => exact ⟨b, r, h⟩
  | _ => exact absurd h (fun z => z)
theorem tx_val (h : EX g c e δ M (BlD R)) (he : ∀ env whole, isTrue e env whole = (do let v ← whole; standAt e.pos; holding [v] (truthy v)) := by intro _ _; rfl) : TX g c e δ M R := by
  intro X F0 G F σ H eF st sl
  refine wT_of (pt_val pe_wE (he X.env)) (wE_mono (h X F0 G F σ H eF st sl) fun v H1 q => ?_)
  obtain ⟨F1, M1, d, e1, st1, r, q⟩ := q
  obtain ⟨k, ev, q⟩ := BlD.rep (g := g) (H := H1) q r
  exact ⟨k, ev, F1, M1, e1, st1, q⟩
theorem PoE.bl {F H : Hp} {v : V} (h : PoE g F (BlD R) v H) : ∃ k, v = .bl k ∧ PoT g F R k H := by
  obtain ⟨F1, M1, d, e1, st1, r, q⟩ := h
  obtain ⟨k, ev, q⟩ := BlD.rep (g := g) (H := H) q r
  exact ⟨k, ev, F1, M1, e1, st1, q⟩
theorem tx_cmp {op : CmpOp} {r : R2} (ho : ∀ X : Cx, X.K = g.K → X.A.units + 65 < cLine → OpR X (compareOp op) r) (mo : ∀ x y H (Q Q' : VK), (∀ v H', Q v H' → Q' v H') → r x y H Q → r x y H Q')
    (h : EX g c a δ M fun x M1 => EX g c b δ M1 fun y M2 => D2 g r x y M2 (BlD R)) (hm : behindInMarks op b = false := by rfl) : TX g c (.Compare a [op] [b] pos) δ M R :=
  fun X F0 G F σ H e st sl => wT_of (pt_cmpR (ho X G.K (by have := G.room.un; omega)) pe_wE pe_wE hm)
    (two (R := fun v u H2 => r v u H2 fun x H' => ∃ k, x = .bl k ∧ PoT g F R k H') h G e st sl fun F' H' M' v u x y e1 s1 r1 r2 k => mo _ _ _ _ _ (fun _ _ q => PoE.bl q) (k F F' H' v u e1 s1 r1 r2))
theorem rI0_mono {f : Int → Int → V} : ∀ x y H (Q Q' : VK), (∀ v H', Q v H' → Q' v H') → rI0 f x y H Q → rI0 f x y H Q' := fun x y H Q Q' k ⟨i, j, h1, h2, q⟩ => ⟨i, j, h1, h2, k _ _ q⟩
theorem tx_lt (h : EX g c a δ M fun x M1 => EX g c b δ M1 fun y M2 => IntD (fun i j => decide (i < j)) x y M2 (BlD R)) : TX g c (.Compare a [.Lt] [b] pos) δ M R :=
  tx_cmp (r := rI0 fun i j => .bl (decide (i < j))) (fun X hK _ => op_lt) rI0_mono (EX.imp h fun _ _ k => EX.imp k fun _ _ k => d2_int k) (nomark _)
theorem tx_le (h : EX g c a δ M fun x M1 => EX g c b δ M1 fun y M2 => IntD (fun i j => decide (i ≤ j)) x y M2 (BlD R)) : TX g c (.Compare a [.LtE] [b] pos) δ M R :=
  tx_cmp (r := rI0 fun i j => .bl (decide (i ≤ j))) (fun X hK _ => op_le) rI0_mono (EX.imp h fun _ _ k => EX.imp k fun _ _ k => d2_int k) (nomark _)
theorem tx_gt (h : EX g c a δ M fun x M1 => EX g c b δ M1 fun y M2 => IntD (fun i j => decide (j < i)) x y M2 (BlD R)) : TX g c (.Compare a [.Gt] [b] pos) δ M R :=
  tx_cmp (r := rI0 fun i j => .bl (decide (j < i))) (fun X hK _ => op_gt) rI0_mono (EX.imp h fun _ _ k => EX.imp k fun _ _ k => d2_int k) (nomark _)
theorem tx_ge (h : EX g c a δ M fun x M1 => EX g c b δ M1 fun y M2 => IntD (fun i j => decide (j ≤ i)) x y M2 (BlD R)) : TX g c (.Compare a [.GtE] [b] pos) δ M R :=
  tx_cmp (r := rI0 fun i j => .bl (decide (j ≤ i))) (fun X hK _ => op_ge) rI0_mono (EX.imp h fun _ _ k => EX.imp k fun _ _ k => d2_int k) (nomark _)
/-- any comparison with a value's own reading -/
theorem tx_of_ex {op : CmpOp} (h : EX g c (.Compare a [op] [b] pos) δ M (BlD R))
    (hp : ∀ (X : Cx) (F0 : Hp), Good g c X F0 → ∀ (σ : L2.St) (H : Hp) (Q : Bool → Hp → Prop), wE X (.Compare a [op] [b] pos) σ H (fun v H' => ∃ k, v = .bl k ∧ Q k H') → wT X (.Compare a [op] [b] pos) σ H Q) : TX g c (.Compare a [op] [b] pos) δ M R :=
  fun X F0 G F σ H e st sl => hp X F0 G σ H _ (wE_mono (h X F0 G F σ H e st sl) fun _ _ q => PoE.bl q)
theorem d2_eq {x y : D} (k : EqD id x y M Q) : D2 g (fun x y H Q => rEq x y H Q ∨ rEqD g.K x y H Q) x y M Q := by
  unfold EqD at k
  split at k
  · rename_i i j
    intro Fa F H v u e st r1 r2
    have r1 : v = .int i := r1
    have r2 : u = .int j := r2
    rw [r1, r2]
    exact .inl ⟨rfl, .same (d := .bl (decide (i = j))) e st k (by rw [dec_int]; show V.bl _ = V.bl _; rw [Bool.beq_eq_decide_eq])⟩
  · rename_i i j
    intro Fa F H v u e st r1 r2
    have r1 : v = .str i := r1
    have r2 : u = .str j := r2
    rw [r1, r2]
    exact .inl ⟨rfl, .same (d := .bl (decide (i = j))) e st k (by rw [dec_str]; show V.bl _ = V.bl _; rw [Bool.beq_eq_decide_eq])⟩
  · obtain ⟨xs, ys, ps, qs, h1, h2, h3, h4, h5, h6, q⟩ := k
    intro Fa F H v u e st r1 r2
    exact .inr ⟨_, _, toPD h1 st r1 h3, toPD h2 st r2 h4, h5, h6, .same e st q rfl⟩
theorem d2_ne {x y : D} (k : EqD not x y M Q) : D2 g (fun x y H Q => rNe x y H Q ∨ rNeD g.K x y H Q) x y M Q := by
  unfold EqD at k
  split at k
  · rename_i i j
    intro Fa F H v u e st r1 r2
    have r1 : v = .int i := r1
    have r2 : u = .int j := r2
    rw [r1, r2]
    exact .inl ⟨rfl, .same (d := .bl (!decide (i = j))) e st k (by rw [dec_int]; show V.bl _ = V.bl _; rw [Bool.beq_eq_decide_eq])⟩
  · rename_i i j
    intro Fa F H v u e st r1 r2
    have r1 : v = .str i := r1
    have r2 : u = .str j := r2
    rw [r1, r2]
    exact .inl ⟨rfl, .same (d := .bl (!decide (i = j))) e st k (by rw [dec_str]; show V.bl _ = V.bl _; rw [Bool.beq_eq_decide_eq])⟩
  · obtain ⟨xs, ys, ps, qs, h1, h2, h3, h4, h5, h6, q⟩ := k
    intro Fa F H v u e st r1 r2
    exact .inr ⟨_, _, toPD h1 st r1 h3, toPD h2 st r2 h4, h5, h6, .same e st q rfl⟩
theorem tx_eq (h : EX g c a δ M fun x M1 => EX g c b δ M1 fun y M2 => EqD id x y M2 (BlD R)) : TX g c (.Compare a [.Eq] [b] pos) δ M R :=
  tx_cmp (r := fun x y H Q => rEq x y H Q ∨ rEqD g.K x y H Q) (fun X hK hu => hK ▸ OpR.or op_eq (op_eqD (by omega)))
    (fun x y H Q Q' k h => h.imp (fun ⟨z, q⟩ => ⟨z, k _ _ q⟩) fun ⟨d, e, h1, h2, h3, h4, q⟩ => ⟨d, e, h1, h2, h3, h4, k _ _ q⟩) (EX.imp h fun _ _ k => EX.imp k fun _ _ k => d2_eq k) (nomark _)
theorem tx_ne (h : EX g c a δ M fun x M1 => EX g c b δ M1 fun y M2 => EqD not x y M2 (BlD R)) : TX g c (.Compare a [.NotEq] [b] pos) δ M R :=
  tx_cmp (r := fun x y H Q => rNe x y H Q ∨ rNeD g.K x y H Q) (fun X hK hu => hK ▸ OpR.or op_ne (op_neD (by omega)))
    (fun x y H Q Q' k h => h.imp (fun ⟨z, q⟩ => ⟨z, k _ _ q⟩) fun ⟨d, e, h1, h2, h3, h4, q⟩ => ⟨d, e, h1, h2, h3, h4, k _ _ q⟩) (EX.imp h fun _ _ k => EX.imp k fun _ _ k => d2_ne k) (nomark _)
theorem tx_in (h : EX g c a δ M fun x M1 => EX g c b δ M1 fun y M2 => InD x y M2 R) (hm : behindInMarks .In b = false := by rfl) : TX g c (.Compare a [.In] [b] pos) δ M R :=
  tx_cmp (r := fun x y H Q => rIn g.K false x y H Q ∨ rInS x y H Q) (fun X hK hu => hK ▸ OpR.or op_in_seq op_in_sign)
    (fun x y H Q Q' k h => h.imp (fun ⟨p, xs, h1, h2, h3, h4, q⟩ => ⟨p, xs, h1, h2, h3, h4, k _ _ q⟩) fun ⟨i, z, h1, h2, q⟩ => ⟨i, z, h1, h2, k _ _ q⟩) (EX.imp h fun _ _ k => EX.imp k fun _ _ k => d2_in k) hm
theorem tx_isN {j pos'} (h : EX g c a δ M fun x M1 => R (isNon x) M1) : TX g c (.Compare a [.Is] [.Constant .none j pos'] pos) δ M R := by
  intro X F0 G F σ H e st sl
  refine wT_of (pt_cmp (pc_isN pe_wE)) (wE_mono (h X F0 G F σ H e st sl) fun v H1 q => ?_)
  obtain ⟨F1, M1, x, e1, st1, rx, q⟩ := q
  exact ⟨isNon x, by rw [rep_non rx], F1, M1, e1, st1, q⟩
theorem tx_notN {j pos'} (h : EX g c a δ M fun x M1 => R (!isNon x) M1) : TX g c (.Compare a [.IsNot] [.Constant .none j pos'] pos) δ M R := by
  intro X F0 G F σ H e st sl
  refine wT_of (pt_cmp (pc_notN pe_wE)) (wE_mono (h X F0 G F σ H e st sl) fun v H1 q => ?_)
  obtain ⟨F1, M1, x, e1, st1, rx, q⟩ := q
  exact ⟨!isNon x, by rw [rep_non rx], F1, M1, e1, st1, q⟩
/-- a chain of two, of ints -/
def ChD (g : Gb) (c : Cz) (δ : Sl) (f f' : Int → Int → Bool) (d : Expr) (x y : D) (M : Mem) (R : Bool → Mem → Prop) : Prop :=
  ∃ i j, x = .int i ∧ y = .int j ∧ cond (f i j) (EX g c d δ M fun z M1 => ∃ k, z = .int k ∧ R (f' j k) M1) (R false M)
theorem chain_run {f f' : Int → Int → Bool} {d : Expr} {X : Cx} {F0 F H : Hp} {σ : L2.St} (h : EX g c a δ M fun x M1 => EX g c b δ M1 fun y M2 => ChD g c δ f f' d x y M2 R) (G : Good g c X F0) (e : Ex F0 F) (st : Sto g.K F M H) (sl : SlotsR g.K F δ σ) :
    tChain (rI0 fun i j => .bl (f i j)) (rI0 fun i j => .bl (f' i j)) (wE X a) (wE X b) (wE X d) σ H (fun v H' => ∃ k, v = .bl k ∧ PoT g F R k H') := by
  refine two (R := fun v u H2 => rI0 (fun i j => V.bl (f i j)) v u H2 fun z H3 => ∃ k, z = .bl k ∧ (if k = true then wE X d σ H3 fun w' H4 => rI0 (fun i j => V.bl (f' i j)) u w' H4 (fun v H' => ∃ k, v = .bl k ∧ PoT g F R k H') else ∃ k, V.bl false = .bl k ∧ PoT g F R k H3))
    h G e st sl fun F' H' M' v u x y e1 s1 r1 r2 k => ?_
  obtain ⟨i, j, rfl, rfl, k⟩ := k
  refine ⟨i, j, r1, r2, _, rfl, ?_⟩
  cases hf : f i j with
  | true =>
    rw [hf] at k
    rw [if_pos rfl]
    refine wE_mono ((show EX g c d δ M' _ from k) X F0 G F' σ H' (e.trans e1) s1 (sl.mono e1)) fun w H4 q => ?_
    obtain ⟨F1, M1, z, e2, st2, rz, kk, rfl, q⟩ := q
    exact ⟨j, kk, r2, rz, _, rfl, F1, M1, e1.trans e2, st2, q⟩
  | false =>
    rw [hf] at k
    rw [if_neg Bool.false_ne_true]
    exact ⟨_, rfl, F', M', e1, s1, k⟩
theorem tx_ch {op op' : CmpOp} {f f' : Int → Int → Bool} {d : Expr} (ho : ∀ X : Cx, OpR X (compareOp op) (rI0 fun i j => .bl (f i j))) (ho' : ∀ X : Cx, OpR X (compareOp op') (rI0 fun i j => .bl (f' i j)))
    (h : EX g c a δ M fun x M1 => EX g c b δ M1 fun y M2 => ChD g c δ f f' d x y M2 R) (hm : lastMarks [op, op'] [b, d] = false := by with_unfolding_all rfl) : TX g c (.Compare a [op, op'] [b, d] pos) δ M R :=
  fun X F0 G F σ H e st sl => wT_of (pt_chain (ho X) (ho' X) pe_wE pe_wE pe_wE hm) (chain_run h G e st sl)
theorem ex_ch {op op' : CmpOp} {f f' : Int → Int → Bool} {d : Expr} (ho : ∀ X : Cx, OpR X (compareOp op) (rI0 fun i j => .bl (f i j))) (ho' : ∀ X : Cx, OpR X (compareOp op') (rI0 fun i j => .bl (f' i j)))
    (h : EX g c a δ M fun x M1 => EX g c b δ M1 fun y M2 => ChD g c δ f f' d x y M2 fun k M => Q (.bl k) M) (hm : lastMarks [op, op'] [b, d] = false := by with_unfolding_all rfl) : EX g c (.Compare a [op, op'] [b, d] pos) δ M Q :=
  fun X F0 G F σ H e st sl => wE_mono (wE_of (pe_chain (ho X) (ho' X) pe_wE pe_wE pe_wE hm) (chain_run h G e st sl)) fun v H' q => by
    obtain ⟨k, rfl, F1, M1, e1, st1, q⟩ := q
    exact ⟨F1, M1, .bl k, e1, st1, rfl, q⟩
/-! ### and, or, not -/
theorem wt_and1 (h : TX g c a δ M R) : WT g c (.BoolOp .And [a] pos) δ M R := fun X F0 G F σ H e st sl => wW_of (pw_and1 pt_wT) (h X F0 G F σ H e st sl)
theorem wt_or1 (h : TX g c a δ M R) : WT g c (.BoolOp .Or [a] pos) δ M R := fun X F0 G F σ H e st sl => wW_of (pw_or1 pt_wT) (h X F0 G F σ H e st sl)
theorem wt_and (h : TX g c a δ M fun k M1 => cond k (WT g c (.BoolOp .And (b :: rest) pos) δ M1 R) (R false M1)) : WT g c (.BoolOp .And (a :: b :: rest) pos) δ M R := by
  intro X F0 G F σ H e st sl
  refine wW_of (pw_and pt_wT pw_wW) (wT_mono (h X F0 G F σ H e st sl) fun k H1 q => ?_)
  obtain ⟨F1, M1, e1, st1, q⟩ := q
  cases k with
  | true =>
    rw [if_pos rfl]
    exact wW_mono ((show WT g c _ δ M1 R from q) X F0 G F1 σ H1 (e.trans e1) st1 (sl.mono e1)) fun _ _ q => PoT.back e1 q
  | false =>
    rw [if_neg Bool.false_ne_true]
    exact ⟨F1, M1, e1, st1, q⟩
theorem wt_or (h : TX g c a δ M fun k M1 => cond k (R true M1) (WT g c (.BoolOp .Or (b :: rest) pos) δ M1 R)) : WT g c (.BoolOp .Or (a :: b :: rest) pos) δ M R := by
  intro X F0 G F σ H e st sl
  refine wW_of (pw_or pt_wT pw_wW) (wT_mono (h X F0 G F σ H e st sl) fun k H1 q => ?_)
  obtain ⟨F1, M1, e1, st1, q⟩ := q
  cases k with
  | false =>
    rw [if_neg Bool.false_ne_true]
    exact wW_mono ((show WT g c _ δ M1 R from q) X F0 G F1 σ H1 (e.trans e1) st1 (sl.mono e1)) fun _ _ q => PoT.back e1 q
  | true =>
    rw [if_pos rfl]
    exact ⟨F1, M1, e1, st1, q⟩
theorem tx_w {op} (h : WT g c (.BoolOp op rest pos) δ M R) : TX g c (.BoolOp op rest pos) δ M R := fun X F0 G F σ H e st sl => wT_of (PW.pt pw_wW) (h X F0 G F σ H e st sl)
theorem tx_not (h : TX g c a δ M fun k M1 => R (!k) M1) : TX g c (.UnaryOp .Not a pos) δ M R := fun X F0 G F σ H e st sl => wT_of (pt_not pt_wT) (h X F0 G F σ H e st sl)
theorem ex_bone {op} (h : EX g c a δ M Q) : EX g c (.BoolOp op [a] pos) δ M Q := fun X F0 G F σ H e st sl => wE_of (pe_one pe_wE) (h X F0 G F σ H e st sl)
theorem ex_and (h : EX g c a δ M (BlD fun k M1 => cond k (EX g c (.BoolOp .And (b :: rest) pos) δ M1 Q) (Q (.bl false) M1))) : EX g c (.BoolOp .And (a :: b :: rest) pos) δ M Q := by
  intro X F0 G F σ H e st sl
  refine wE_of (pe_and pe_wE pe_wE) (wE_mono (h X F0 G F σ H e st sl) fun v H1 q => ?_)
  obtain ⟨k, ev, F1, M1, e1, st1, q⟩ := PoE.bl q
  refine ⟨k, ev, ?_⟩
  cases k with
  | true =>
    rw [if_pos rfl]
    exact wE_mono ((show EX g c _ δ M1 Q from q) X F0 G F1 σ H1 (e.trans e1) st1 (sl.mono e1)) fun _ _ q => PoE.back e1 q
  | false =>
    rw [if_neg Bool.false_ne_true]
    exact ⟨F1, M1, .bl false, e1, st1, rfl, q⟩
theorem ex_or (h : EX g c a δ M (BlD fun k M1 => cond k (Q (.bl true) M1) (EX g c (.BoolOp .Or (b :: rest) pos) δ M1 Q))) : EX g c (.BoolOp .Or (a :: b :: rest) pos) δ M Q := by
  intro X F0 G F σ H e st sl
  refine wE_of (pe_or pe_wE pe_wE) (wE_mono (h X F0 G F σ H e st sl) fun v H1 q => ?_)
  obtain ⟨k, ev, F1, M1, e1, st1, q⟩ := PoE.bl q
  refine ⟨k, ev, ?_⟩
  cases k with
  | false =>
    rw [if_neg Bool.false_ne_true]
    exact wE_mono ((show EX g c _ δ M1 Q from q) X F0 G F1 σ H1 (e.trans e1) st1 (sl.mono e1)) fun _ _ q => PoE.back e1 q
  | true =>
    rw [if_pos rfl]
    exact ⟨F1, M1, .bl true, e1, st1, rfl, q⟩
theorem ex_not (h : EX g c a δ M (BlD fun k M1 => Q (.bl (!k)) M1)) : EX g c (.UnaryOp .Not a pos) δ M Q := by
  intro X F0 G F σ H e st sl
  refine wE_of (pe_not pe_wE) (wE_mono (h X F0 G F σ H e st sl) fun v H1 q => ?_)
  obtain ⟨k, ev, F1, M1, e1, st1, q⟩ := PoE.bl q
  exact ⟨k, ev, F1, M1, .bl (!k), e1, st1, rfl, q⟩
theorem ex_if {t : Expr} (h : TX g c t δ M fun k M1 => cond k (EX g c a δ M1 Q) (EX g c b δ M1 Q)) : EX g c (.IfExp t a b pos) δ M Q := by
  intro X F0 G F σ H e st sl
  refine wE_of (pe_ifExp pt_wT pe_wE pe_wE) (wT_mono (h X F0 G F σ H e st sl) fun k H1 q => ?_)
  obtain ⟨F1, M1, e1, st1, q⟩ := q
  cases k with
  | true =>
    rw [if_pos rfl]
    exact wE_mono ((show EX g c a δ M1 Q from q) X F0 G F1 σ H1 (e.trans e1) st1 (sl.mono e1)) fun _ _ q => PoE.back e1 q
  | false =>
    rw [if_neg Bool.false_ne_true]
    exact wE_mono ((show EX g c b δ M1 Q from q) X F0 G F1 σ H1 (e.trans e1) st1 (sl.mono e1)) fun _ _ q => PoE.back e1 q

/-! ### arguments, displays -/
section
variable {QA : List D → Mem → Prop}
theorem ax_nil (q : QA [] M) : AX g c [] δ M QA := fun X F0 G F σ H e st sl => wA_of pa_nil ⟨F, M, [], Evl.Ex.refl F, st, rfl, q⟩
theorem ax_cons (h : EX g c a δ M fun d M1 => AX g c es δ M1 fun ds M2 => QA (d :: ds) M2) (hs : ∀ env, starEach (a :: es) env = (false, eval a env) :: starEach es env := by intro _; rfl) : AX g c (a :: es) δ M QA := by
  intro X F0 G F σ H e st sl
  refine wA_of (pa_cons pe_wE pa_wA (hs X.env)) (wE_mono (h X F0 G F σ H e st sl) fun v H1 q => ?_)
  obtain ⟨F1, M1, d, e1, st1, r, q⟩ := q
  refine wA_mono (q X F0 G F1 σ H1 (e.trans e1) st1 (sl.mono e1)) fun vs H2 q2 => ?_
  obtain ⟨F2, M2, ds, e2, st2, r2, q2⟩ := q2
  exact ⟨F2, M2, d :: ds, e1.trans e2, st2, .cons (r.mono e2) r2, q2⟩
theorem ex_tup {k1} (h : AX g c es δ M fun ds M1 => ds.length ≤ sizeLine ∧ Q (.tup ds) M1) : EX g c (.Tuple es k1 pos) δ M Q := by
  intro X F0 G F σ H e st sl
  refine wE_of (pe_tup pa_wA) (wA_mono (h X F0 G F σ H e st sl) fun vs H1 q => ?_)
  obtain ⟨F1, M1, ds, e1, st1, r, hz, q⟩ := q
  exact ⟨by rw [r.length]; exact hz, fun p hp => PoE.tup e1 st1 hp r q⟩
theorem ex_lst (h : AX g c es δ M fun ds M1 => ds.length ≤ sizeLine ∧ Q (.lst ds) M1) : EX g c (.List es pos) δ M Q := by
  intro X F0 G F σ H e st sl
  refine wE_of (pe_lst pa_wA) (wA_mono (h X F0 G F σ H e st sl) fun vs H1 q => ?_)
  obtain ⟨F1, M1, ds, e1, st1, r, hz, q⟩ := q
  exact ⟨by rw [r.length]; exact hz, fun p hp => PoE.lst e1 st1 hp r q⟩
/-- a list that may change -/
theorem ex_lstN (h : AX g c es δ M fun ds M1 => ds.length ≤ sizeLine ∧ ∀ p, M1 p = none → Q (.ref p) (mup M1 p (.lst ds))) : EX g c (.List es pos) δ M Q := by
  intro X F0 G F σ H e st sl
  refine wE_of (pe_lst pa_wA) (wA_mono (h X F0 G F σ H e st sl) fun vs H1 q => ?_)
  obtain ⟨F1, M1, ds, e1, st1, r, hz, q⟩ := q
  exact ⟨by rw [r.length]; exact hz, fun p hp => PoE.new e1 st1 hp r (q p)⟩
end

/-! ### fields -/
def getf : List Str → List D → Str → Option D
  | n :: ns, d :: ds, f => if f = n then some d else getf ns ds f
  | _, _, _ => none
theorem getf_rep {F : Hp} {f : Str} {d : D} : ∀ {ns : List Str} {ds : List D} {vs : List V}, Reps g.K F ds vs → getf ns ds f = some d → ∃ v, (ns.zip vs).lookup f = some v ∧ Rep g.K F d v
  | [], _, _, _, h => nomatch h
  | _ :: _, [], _, _, h => nomatch h
  | n :: ns, d' :: ds, _, ⟨v, us, h1, h2, h3⟩, h => by
    have h : (if f = n then some d' else getf ns ds f) = some d := h
    subst h1
    by_cases hf : f = n
    · rw [if_pos hf] at h
      rw [← Option.some.inj h]
      refine ⟨v, ?_, h2⟩
      rw [List.zip_cons_cons, List.lookup_cons, show (f == n) = true from by simp [hf]]
    · rw [if_neg hf] at h
      obtain ⟨w, e1, e2⟩ := getf_rep h3 h
      refine ⟨w, ?_, e2⟩
      rw [List.zip_cons_cons, List.lookup_cons, show (f == n) = false from by simp [hf]]
      exact e1
/-- the instance that x is, as it stands -/
def InsD (M : Mem) (x : D) (C : Addr) (ns : List Str) (ds : List D) : Prop := match x with
  | .ins C' ns' ds' => C' = C ∧ ns' = ns ∧ ds' = ds
  | .ref a => M a = some (.ins C ns ds)
  | _ => False
theorem InsD.rep {F H : Hp} {x : D} {C : Addr} {ns : List Str} {ds : List D} {v : V} (h : InsD M x C ns ds) (st : Sto g.K F M H) (r : Rep g.K F x v) : ∃ p dx vs, v = .ref p ∧ H p = some (.ins C dx (ns.zip vs)) ∧ ns.length = ds.length ∧ Reps g.K F ds vs := by
  cases x with
  | ins C' ns' ds' =>
    obtain ⟨h1, h2, h3⟩ := (show C' = C ∧ ns' = ns ∧ ds' = ds from h)
    subst h1 h2 h3
    obtain ⟨p, dx, vs, e1, e2, e3, e4⟩ := r
    exact ⟨p, dx, vs, e1, st.ex _ _ e2, e3, e4⟩
  | ref a =>
    have h : M a = some (.ins C ns ds) := h
    obtain ⟨_, dx, vs, h1, h2, h3⟩ := st.mem a _ h
    exact ⟨a, dx, vs, r, h1, h2, h3⟩
  | _ => exact absurd h (fun z => z)
theorem ex_fld {f : Str} {C : Addr} (hc : Cls g.K C) (hn : NoAttr g.K C f) (h : EX g c e δ M fun x M1 => ∃ ns ds d, InsD M1 x C ns ds ∧ getf ns ds f = some d ∧ Q d M1) (hb : ∀ env, attributeBase e f env (eval e env) = eval e env := by intro _; rfl) :
    EX g c (.Attribute e f pos) δ M Q := by
  intro X F0 G F σ H eF st sl
  refine wE_of (pe_fld pe_wE (hb X.env)) (wE_mono (h X F0 G F σ H eF st sl) fun v H1 q => ?_)
  obtain ⟨F1, M1, x, e1, st1, r, ns, ds, d, h1, h2, q⟩ := q
  obtain ⟨p, dx, vs, e2, e3, e4, e5⟩ := h1.rep st1 r
  obtain ⟨w, e6, e7⟩ := getf_rep e5 h2
  exact ⟨p, C, dx, ns.zip vs, w, e2, e3, by rw [G.K]; exact hc, by rw [G.K]; exact hn, e6, F1, M1, d, e1, st1, e7, q⟩

/-! ### calls of defs -/
abbrev DSp := List D → Mem → (D → Mem → Prop) → (Addr → List Str → List D → Mem → Prop) → Prop
def Lsp (g : Gb) (sp : DSp) : Sp := fun vs H Q E => ∃ F M ds Qd Ed, Sto g.K F M H ∧ Reps g.K F ds vs ∧ sp ds M Qd Ed ∧ (∀ d M', Qd d M' → ∀ F' v H', Ex F F' → Sto g.K F' M' H' → Rep g.K F' d v → Q v H') ∧
  (∀ C ns xs M', Ed C ns xs M' → ∀ F' H' dd us, Ex F F' → Sto g.K F' M' H' → H' dd = some (.xd (ns.zip us)) → ns.length = xs.length → Reps g.K F' xs us → E (.ref C) (some dd) H')
/-- a promise, told at a caller's slots -/
theorem Lsp.at {sp : DSp} {ds : List D} {vs : List V} {X : Cx} {F0 F Fa H : Hp} {σ : L2.St} (G : Good g c X F0) (e0 : Ex F0 F) (ea : Ex Fa F) (st : Sto g.K F M H) (sl : SlotsR g.K F δ σ) (r : Reps g.K F ds vs)
    (h : sp ds M Q fun C ns xs M' => c.E C ns xs δ M') : Lsp g sp vs H (PoE g Fa Q) (fun cls d H' => WofD g.K F0 c.E cls d σ H') :=
  ⟨F, M, ds, _, _, st, r, h, fun d M' q F' v H' e' st' r' => ⟨F', M', d, ea.trans e', st', r', q⟩, fun C ns xs M' q F' H' dd us e' st' hd hl r' => ⟨C, dd, ns, us, xs, F', δ, M', rfl, rfl, e0.trans e', st', sl.mono e', hd, hl, r', q⟩⟩
theorem Good.fn_ok {X : Cx} {F0 : Hp} {k : Nat} {f : Addr} {fd : FuncData} {ps : List Str} {sp : Sp} (G : Good g c X F0) (F : FnOk g.P g.w g.K g.mg g.base (L2.CX g.P g.w) k f fd ps sp) : FnOk X.prog X.w X.K X.mg X.base (L2.CX X.prog X.w) k f fd ps sp := by
  rw [G.prog, G.w, G.K, G.mg, G.base]
  exact F
/-- what a name of the module keeps -/
structure Kn (g : Gb) (x : Str) (k : Nat) (ps : List Str) (sp : DSp) : Prop where
  ex : ∃ (f : Addr) (fd : FuncData), FnOk g.P g.w g.K g.mg g.base (L2.CX g.P g.w) k f fd ps (Lsp g sp) ∧ g.mg x = some (.ref f) ∧ PySem.W.keepIn g.K (.ref f) = true ∧ Binds g.K fd ps []
theorem ex_call {x : Str} {p : Pos} {k : Nat} {ps : List Str} {sp : DSp} (hk : Kn g x k ps sp) (hl : k ≤ c.k) (hg : gloB c.sc x = true) (h : AX g c (a :: es) δ M fun ds M1 => sp ds M1 Q fun C ns xs M' => c.E C ns xs δ M')
    (hdb : (x == ("__debug__" : Str)) = false := by decide) (he : ∀ env, starEach (a :: es) env = (false, eval a env) :: starEach es env := by intro _; rfl) (hpl : ∀ env, (backTo pos (starEach es env)).any (·.1) = false := by intro _; rfl) :
    EX g c (.Call (.Name x p) (a :: es) [] pos) δ M Q := by
  intro X F0 G F σ H e st sl
  obtain ⟨f, fd, hF, hm, kp, hb⟩ := hk.ex
  refine wE_of (pe_callS (E := WE (WofD g.K F0 c.E)) (G.fn_ok hF) (G.room.mono hl) (G.gl hg) (by rw [G.mg]; exact hm) (by rw [G.K]; exact kp) (by rw [G.K]; exact hb) (fun σ => passAt G.takes σ) pa_wA hdb (he X.env) (hpl X.env)) ?_
  refine wA_mono (h X F0 G F σ H e st sl) fun vs H1 q => ?_
  obtain ⟨F1, M1, ds, e1, st1, r, q⟩ := q
  exact Lsp.at G (e.trans e1) e1 st1 (sl.mono e1) r q
/-- what a method of the class at C keeps -/
structure Km (g : Gb) (C : Addr) (m : Str) (k : Nat) (ps : List Str) (sp : DSp) : Prop where
  ex : ∃ (f : Addr) (fd : FuncData), FnOk g.P g.w g.K g.mg g.base (L2.CX g.P g.w) k f fd ps (Lsp g sp) ∧ Meth g.K C m f ∧ Binds g.K fd ps []
theorem zip_look {F : Hp} {f : Str} : ∀ {ns : List Str} {vs : List V}, f ∉ ns → (ns.zip vs).lookup f = none
  | [], _, _ => rfl
  | _ :: _, [], _ => rfl
  | n :: ns, v :: vs, h => by
    rw [List.mem_cons, not_or] at h
    rw [List.zip_cons_cons, List.lookup_cons, show (f == n) = false from by simp [h.1]]
    exact zip_look (F := F) h.2
theorem ex_meth {o : Expr} {m : Str} {apos : Pos} {C : Addr} {k : Nat} {ps : List Str} {sp : DSp} (hk : Km g C m k ps sp) (hc : Cls g.K C) (hl : k ≤ c.k)
    (h : EX g c o δ M fun x M1 => ∃ ns ds, InsD M1 x C ns ds ∧ m ∉ ns ∧ AX g c (a :: es) δ M1 fun ds M2 => sp (x :: ds) M2 Q fun C ns xs M' => c.E C ns xs δ M') {pl : Cx → Sem Bool}
    (hst : ∀ env, starEach (a :: es) env = (false, eval a env) :: starEach es env := by intro _; rfl) (hpl : ∀ env, (backTo pos (starEach es env)).any (·.1) = false := by intro _; rfl)
    (ht : ∀ X : Cx, eval (.Call (.Attribute o m apos) (a :: es) [] pos) X.env = (do
      let ov ← eval o X.env
      standAt apos.atName
      let (f, first) ← holding [ov] (getMethod ov m (pl X))
      callWith pos f first (backTo pos (starEach (a :: es) X.env)) (backToKw pos (keywordEach [] X.env))) := by intro _; rfl) :
    EX g c (.Call (.Attribute o m apos) (a :: es) [] pos) δ M Q := by
  intro X F0 G F σ H e st sl pins s I
  obtain ⟨f, fd, hF, hm, hb⟩ := hk.ex
  refine PySem.W.methodCall_KW (pl := pl X) (thn (h X F0 G F σ H e st sl pins s I) fun u s1 ⟨v, H1, I1, rv, q⟩ => ?_) (ht X)
  obtain ⟨F1, M1, x, e1, st1, r, ns, ds, hx, hn, q⟩ := q
  obtain ⟨p, dx, vs, rfl, hp, hlen, rs⟩ := hx.rep st1 r
  obtain rfl : u = Value.ref p := rv
  refine getmeth_ok I1 hp (by rw [G.K]; exact hc) (by rw [G.K]; exact hm) (zip_look (F := F1) hn) ?_
  refine PySem.W.callWith_K (first := [.ref p]) (h₀ := X.base) I.ok.mod.kin (by rw [G.K]; exact hm.kp) (thn (q X F0 G F1 σ H1 (e.trans e1) st1 (sl.mono e1) pos pins s1 I1) fun us s2 ⟨ws, H2, I2, r2, q2⟩ => ⟨I2.kIn, ?_⟩) (hst X.env) (hpl X.env)
  obtain ⟨F2, M2, es', e2, st2, rw', q2⟩ := q2
  exact run_fnS (us := .ref p :: us) (vs := .ref p :: ws) (E := WE (WofD g.K F0 c.E)) (G.fn_ok hF) (G.room.mono hl) (by rw [G.K]; exact hb) (passAt G.takes σ) I2 (.cons rfl r2)
    (Lsp.at G ((e.trans e1).trans e2) (e1.trans e2) st2 (sl.mono (e1.trans e2)) (.cons (r.mono e2) rw') q2)
theorem ex_meth0 {o : Expr} {m : Str} {apos : Pos} {C : Addr} {k : Nat} {ps : List Str} {sp : DSp} (hk : Km g C m k ps sp) (hc : Cls g.K C) (hl : k ≤ c.k)
    (h : EX g c o δ M fun x M1 => ∃ ns ds, InsD M1 x C ns ds ∧ m ∉ ns ∧ sp [x] M1 Q fun C ns xs M' => c.E C ns xs δ M') {pl : Cx → Sem Bool}
    (ht : ∀ X : Cx, eval (.Call (.Attribute o m apos) [] [] pos) X.env = (do
      let ov ← eval o X.env
      standAt apos.atName
      let (f, first) ← holding [ov] (getMethod ov m (pl X))
      callWith pos f first (backTo pos (starEach [] X.env)) (backToKw pos (keywordEach [] X.env))) := by intro _; rfl) :
    EX g c (.Call (.Attribute o m apos) [] [] pos) δ M Q := by
  intro X F0 G F σ H e st sl pins s I
  obtain ⟨f, fd, hF, hm, hb⟩ := hk.ex
  refine PySem.W.methodCall_KW (pl := pl X) (thn (h X F0 G F σ H e st sl pins s I) fun u s1 ⟨v, H1, I1, rv, q⟩ => ?_) (ht X)
  obtain ⟨F1, M1, x, e1, st1, r, ns, ds, hx, hn, q⟩ := q
  obtain ⟨p, dx, vs, rfl, hp, hlen, rs⟩ := hx.rep st1 r
  obtain rfl : u = Value.ref p := rv
  refine getmeth_ok I1 hp (by rw [G.K]; exact hc) (by rw [G.K]; exact hm) (zip_look (F := F1) hn) ?_
  exact PySem.W.callWith_K0 (first := [.ref p]) I1.kIn (by rw [G.K]; exact hm.kp) (run_fnS (us := [.ref p]) (vs := [.ref p]) (E := WE (WofD g.K F0 c.E)) (G.fn_ok hF) (G.room.mono hl) (by rw [G.K]; exact hb) (passAt G.takes σ) I1 (.cons rfl .nil)
    (Lsp.at G (e.trans e1) e1 st1 (sl.mono e1) (.cons r .nil) q))
end DL

set_option Elab.async false
set_option linter.all false
set_option maxRecDepth 100000
set_option maxHeartbeats 1000000
/-! # The D-layer, part 5: classes made, targets, small statements -/
namespace DL
open PySem PySem.Spec PyProof.Rows L2
open Evl (Ex)
variable {g : Gb} {c : Cz} {δ : Sl} {M : Mem} {Q : D → Mem → Prop} {R : Bool → Mem → Prop} {O : Od} {pos : Pos} {a b e : Expr} {rest es : List Expr} {st : Stmt} {sts : List Stmt}

/-! ### C(..) -/
def mdel (M : Mem) (a : Addr) : Mem := fun b => if b = a then none else M b
theorem mdel_mup {p : Addr} {m : MO} (h : M p = none) : mdel (mup M p m) p = M := by
  funext b
  unfold mdel mup
  by_cases hb : b = p
  · rw [if_pos hb, hb, h]
  · rw [if_neg hb, if_neg hb]
theorem mdel_sub {p : Addr} : MSub (mdel M p) M := fun b m h => by
  unfold mdel at h
  by_cases hb : b = p
  · rw [if_pos hb] at h
    cases h
  · rw [if_neg hb] at h
    exact h
structure Kc (g : Gb) (x : Str) (C : Addr) (k : Nat) (ps : List Str) (sp : DSp) : Prop where
  ex : ∃ (f : Addr) (fd : FuncData), FnOk g.P g.w g.K g.mg g.base (L2.CX g.P g.w) k f fd ps (Lsp g sp) ∧ Mk g.K C f ∧ g.mg x = some (.ref C) ∧ Binds g.K fd ps []
theorem Sto.newI {K : PySem.W.Frag} {F H : Hp} {p dx C : Addr} (s : Sto K F M H) (hp : H p = none) (hd : H dx = none) (ne : dx ≠ p) : Sto K F (mup M p (.ins C [] [])) (upd (upd H dx (.own p)) p (.ins C dx [])) := by
  refine ⟨fun b u e => ?_, fun b m e => ?_, s.nt⟩
  · rw [upd_ne (ne_of_none (s.ex b u e) hp), upd_ne (ne_of_none (s.ex b u e) hd)]
    exact s.ex b u e
  · by_cases hb : b = p
    · subst hb
      rw [mup_same] at e
      cases e
      exact ⟨(s.free hp).1, dx, [], upd_same, rfl, rfl⟩
    · rw [mup_ne hb] at e
      obtain ⟨h1, h2⟩ := s.mem b m e
      obtain ⟨o, ho⟩ := h2.some
      exact ⟨h1, h2.at (by rw [upd_ne hb, upd_ne (ne_of_none ho hd)])⟩
theorem ex_make {x : Str} {C : Addr} {p : Pos} {k : Nat} {ps : List Str} {sp : DSp} (hk : Kc g x C k ps sp) (hl : k + 1 ≤ c.k) (hg : gloB c.sc x = true)
    (h : AX g c (a :: es) δ M fun ds M1 => ∀ q, M1 q = none → sp (.ref q :: ds) (mup M1 q (.ins C [] [])) (fun d M2 => d = .non ∧ Q (.ref q) M2) fun C ns xs M' => c.E C ns xs δ M')
    (hdb : (x == ("__debug__" : Str)) = false := by decide) (he : ∀ env, starEach (a :: es) env = (false, eval a env) :: starEach es env := by intro _; rfl) (hpl : ∀ env, (backTo pos (starEach es env)).any (·.1) = false := by intro _; rfl) :
    EX g c (.Call (.Name x p) (a :: es) [] pos) δ M Q := by
  intro X F0 G F σ H eF st sl pins s I
  obtain ⟨f, fd, hF, hM, hm, hb⟩ := hk.ex
  refine wpAny_Call_Name_kw (ld_glob I (G.gl hg) (by rw [G.mg]; exact hm) ?_ hdb)
  have kp : PySem.W.keepIn X.K (.ref C) = true := by
    rw [G.K]
    exact hM.kp
  refine PySem.W.callWith_K (h₀ := X.base) I.ok.mod.kin kp (thn (h X F0 G F σ H eF st sl pos pins s I) fun us s1 ⟨vs, H1, I1, rv, q⟩ => ⟨I1.kIn, ?_⟩) (he X.env) (hpl X.env)
  obtain ⟨F1, M1, ds, e1, st1, r, q⟩ := q
  have n1 := I1.hok.fresh (Nat.le_refl s1.heap.objs.size)
  have n2 := I1.hok.fresh (Nat.le_succ s1.heap.objs.size)
  have nn : s1.heap.objs.size ≠ s1.heap.objs.size + 1 := Nat.ne_of_lt (Nat.lt_succ_self _)
  have st2 := st1.newI (C := C) n2 n1 nn
  have hq := Lsp.at (Q := fun d M2 => d = .non ∧ Q (.ref (s1.heap.objs.size + 1)) M2) G (eF.trans e1) e1 st2 (sl.mono e1) (.cons (show Rep g.K F1 (.ref (s1.heap.objs.size + 1)) (.ref (s1.heap.objs.size + 1)) from rfl) r) (q _ (st1.free n2).2)
  have I2 := Inv.made (C := C) I1
  have hX := G.fn_ok hF
  have r2 : Vals (V.ref (s1.heap.objs.size + 1) :: vs) (Value.ref (s1.heap.objs.size + 1) :: us) := .cons rfl rv
  have hlen : (Value.ref (s1.heap.objs.size + 1) :: us).length = ps.length := by
    rw [← r2.length]
    exact hX.len _ _ _ _ hq
  have bb := hb _ (Value.ref (s1.heap.objs.size + 1) :: us) (by rw [← G.K]; exact I2.kIn) (by rw [List.append_nil]; exact hlen)
  rw [List.append_nil] at bb
  have hMk : Mk X.K C f := by
    rw [G.K]
    exact hM
  refine wpAny_call (make_map (f := f) I1.kIn hMk.makes hMk.init (beq_iff_eq.mp hMk.fn) (codeAny_mono (hX.run _ X.stack _ _ ⟨Value.ref (s1.heap.objs.size + 1) :: us, []⟩ _ _ _ _ ((G.room.mono hl).make C us []) (I2.env0.make C us []) bb r2 hq) fun r s' hq' => ?_))
  cases r with
  | error e => exact passAt G.takes σ pins _ _ e s' I2 hq'
  | ok fl =>
    cases fl with
    | ret u =>
      obtain ⟨v, H', I3, rv3, F3, M3, d, e3, st3, rd, rfl, q3⟩ := I2.after hq'
      obtain rfl : v = .non := rd
      exact ⟨rv3, ⟨V.ref (s1.heap.objs.size + 1), H', I3, rfl, F3, M3, .ref (s1.heap.objs.size + 1), e3, st3, rfl, q3⟩⟩
    | next => exact False.elim hq'
    | brk => exact False.elim hq'
    | cont => exact False.elim hq'
/-- what is not changed any more is data from now on -/
def FrzD (M : Mem) (Q : D → Mem → Prop) (d : D) : Prop := ∃ p, d = .ref p ∧ ((∃ ds, M p = some (.lst ds) ∧ Q (.lst ds) (mdel M p)) ∨ ∃ C ns ds, M p = some (.ins C ns ds) ∧ Q (.ins C ns ds) (mdel M p))
theorem EX.frz (h : EX g c e δ M fun d M1 => FrzD M1 Q d) : EX g c e δ M Q := fun X F0 G F σ H eF st sl => wE_mono (h X F0 G F σ H eF st sl) fun v H1 q => by
  obtain ⟨F1, M1, d, e1, st1, r, p, rfl, q⟩ := q
  have ev : v = .ref p := r
  rw [ev]
  rcases q with ⟨ds, hm, q⟩ | ⟨C, ns, ds, hm, q⟩
  · obtain ⟨F2, e2, st2, r2⟩ := st1.freezeL hm
    exact ⟨F2, _, _, e1.trans e2, st2, r2, q⟩
  · obtain ⟨F2, e2, st2, r2⟩ := st1.freezeI hm
    exact ⟨F2, _, _, e1.trans e2, st2, r2, q⟩
theorem EX.sub {M' : Mem} (h : EX g c e δ M' Q) (s : MSub M' M) : EX g c e δ M Q := fun X F0 G F σ H eF st sl => h X F0 G F σ H eF (st.sub s) sl

/-! ### targets -/
section
variable {d : D} {QS : Sl → Mem → Prop} {ds : List D}
def locB (c : Cz) (x : Str) : Bool := match c.sc.names.lookup x with
  | some .local => true
  | some .cell => c.fnb x
  | _ => false
theorem Good.loc {X : Cx} {F0 : Hp} {x : Str} (G : Good g c X F0) (h : locB c x = true) : L2.Loc X.env.scope x ∧ (X.fn x = true ∨ X.env.scope.names.lookup x = some .local) := by
  rw [G.sc]
  unfold locB at h
  split at h
  · rename_i e
    exact ⟨.inl e, .inr e⟩
  · rename_i e
    exact ⟨.inr e, .inl (G.fn x h)⟩
  · cases h
theorem gx_name {i : Nat} {x : Str} (hN : c.N[i]? = some x) (hx : locB c x = true) (q : QS (δ.set i (some d)) M) : GX g c (.Name x pos) d δ M QS := by
  intro X F0 G F σ H v eF st sl r
  exact wG_of (pg_name (i := i) (by rw [G.N]; exact G.nd) (by rw [G.N]; exact hN) (G.loc hx).1 (G.loc hx).2) ⟨F, M, _, Evl.Ex.refl F, st, sl.set r, q⟩
theorem gxs_nil (q : QS δ M) : GXs g c [] [] δ M QS := fun X F0 G F σ H vs eF st sl r => wGs_of pgs_nil ⟨r, F, M, δ, Evl.Ex.refl F, st, sl, q⟩
theorem gxs_cons (h : GX g c a d δ M fun δ1 M1 => GXs g c es ds δ1 M1 QS) (hs : ∀ env, (assignEach (a :: es) env).map (·.2) = assign a env :: (assignEach es env).map (·.2) := by intro _; rfl) : GXs g c (a :: es) (d :: ds) δ M QS := by
  intro X F0 G F σ H vs eF st sl r
  obtain ⟨v, us, rfl, r1, r2⟩ := r
  refine wGs_of (pgs_cons pg_wG pgs_wGs (hs X.env)) ⟨v, us, rfl, wG_mono (h X F0 G F σ H v eF st sl r1) fun σ1 H1 q => ?_⟩
  obtain ⟨F1, M1, δ1, e1, st1, sl1, q⟩ := q
  exact wGs_mono (q X F0 G F1 σ1 H1 us (eF.trans e1) st1 sl1 (r2.mono e1)) fun _ _ q => PoN.back e1 q
/-- (a, b, ..) = a tuple, a list of that length -/
theorem gx_tup {k n : Nat} (h : ∃ ds, SeqD M d ds ∧ ds.length = n ∧ GXs g c es ds δ M QS) (hn : ∀ env, (assignEach es env).length = n := by intro _; rfl) (hst : ∀ env, (assignEach es env).findIdx? (·.1) = none := by intro _; rfl) : GX g c (.Tuple es k pos) d δ M QS := by
  intro X F0 G F σ H v eF st sl r
  obtain ⟨ds, h1, h2, h3⟩ := h
  obtain ⟨p, vs, rfl, hq, rv⟩ := h1.rep st r
  have q := h3 X F0 G F σ H vs eF st sl rv
  rw [← G.K] at hq
  rcases hq with hq | hq
  · exact wG_of (pg_unl (n := n) G.calm pgs_wGs (hn X.env) (hst X.env)) ⟨p, vs, rfl, hq, by rw [rv.length, h2], q⟩
  · exact wG_of (pg_tup (n := n) G.calm pgs_wGs (hn X.env) (hst X.env)) ⟨p, vs, rfl, hq, by rw [rv.length, h2], q⟩
/-- l[i] = .., a list that may change -/
theorem gx_sub (h : EX g c a δ M fun x M1 => EX g c b δ M1 fun y M2 => ∃ p ds i j, x = .ref p ∧ y = .int i ∧ M2 p = some (.lst ds) ∧ ixN ds.length i = some j ∧ QS δ (mup M2 p (.lst (ds.set j d))))
    (ha : ∀ env v, assign (.Subscript a b pos) env v = (do
      let ov ← holding [v] (eval a env)
      let iv ← holding [v, ov] (eval b env)
      standAt pos
      holding [v, ov, iv] (setItem ov iv v)
      release [v, ov, iv] []) := by intro _ _; rfl) : GX g c (.Subscript a b pos) d δ M QS := by
  intro X F0 G F σ H v eF st sl r
  refine wG_of (pg_sub pe_wE pe_wE set_list (ha X.env)) (two (R := fun x y H2 => rSetL x y v H2 fun H3 => PoN g F QS σ H3) h G eF st sl fun F' H' M' x y dx dy e1 s1 r1 r2 k => ?_)
  obtain ⟨p, ds, i, j, rfl, rfl, hm, hj, q⟩ := k
  obtain ⟨_, vs, h1, h2⟩ := s1.mem p _ hm
  have rv := (r.mono e1)
  exact ⟨p, vs, i, j, r1, r2, h1, by rw [h2.length]; exact hj, F', _, δ, e1, s1.setL hm (h2.set rv j), sl.mono e1, q⟩
/-- o.f = .. -/
def putN (f : Str) : List Str → List Str
  | [] => [f]
  | n :: ns => if f = n then n :: ns else n :: putN f ns
def putDs (f : Str) (d : D) : List Str → List D → List D
  | n :: ns, x :: ds => if f = n then d :: ds else x :: putDs f d ns ds
  | [], _ => [d]
  | _ :: _, [] => []
theorem put_rep {F : Hp} {f : Str} {d : D} {v : V} (r : Rep g.K F d v) : ∀ {ns : List Str} {ds : List D} {vs : List V}, ns.length = ds.length → Reps g.K F ds vs →
    ∃ us, putF f v (ns.zip vs) = (putN f ns).zip us ∧ Reps g.K F (putDs f d ns ds) us ∧ (putN f ns).length = (putDs f d ns ds).length
  | [], [], vs, _, h => by
    obtain rfl : vs = [] := h
    exact ⟨[v], rfl, .cons r .nil, rfl⟩
  | [], _ :: _, _, h, _ => by cases h
  | _ :: _, [], _, h, _ => by cases h
  | n :: ns, x :: ds, vs, hl, h => by
    obtain ⟨w, us, rfl, h1, h2⟩ := h
    by_cases hf : f = n
    · refine ⟨v :: us, ?_, ?_, ?_⟩
      · show putF f v ((n, w) :: ns.zip us) = _
        unfold putF putN
        rw [if_pos hf, if_pos hf.symm]
        rfl
      · unfold putDs
        rw [if_pos hf]
        exact .cons r h2
      · unfold putDs putN
        rw [if_pos hf, if_pos hf]
        exact hl
    · obtain ⟨us', e1, e2, e3⟩ := put_rep (f := f) r (Nat.succ.inj hl) h2
      refine ⟨w :: us', ?_, ?_, ?_⟩
      · show putF f v ((n, w) :: ns.zip us) = _
        unfold putF putN
        rw [if_neg hf, if_neg (Ne.symm hf), e1]
        rfl
      · unfold putDs
        rw [if_neg hf]
        exact .cons h1 e2
      · unfold putDs putN
        rw [if_neg hf, if_neg hf, List.length_cons, List.length_cons, e3]
theorem gx_fld {o : Expr} {f : Str} {C : Addr} (hc : Cls g.K C) (hn : NoAttr g.K C f) (h : EX g c o δ M fun x M1 => ∃ p ns ds, x = .ref p ∧ M1 p = some (.ins C ns ds) ∧ ns.length < 1000 ∧ QS δ (mup M1 p (.ins C (putN f ns) (putDs f d ns ds)))) : GX g c (.Attribute o f pos) d δ M QS := by
  intro X F0 G F σ H v eF st sl r pins s u I ru
  rw [PySem.assign_Attribute]
  refine wpAny_bind (wpAny_holding (thn (h X F0 G F σ H eF st sl pins s I) fun ov s1 hh => ?_))
  obtain ⟨v1, H1, I1, r1, F1, M1, x, e1, st1, rx, p, ns, ds, rfl, hm, hz, q⟩ := hh
  obtain rfl : v1 = .ref p := rx
  obtain rfl : ov = Value.ref p := r1
  obtain ⟨_, dx, vs, h1, hl, h2⟩ := st1.mem p _ hm
  refine wpAny_bind (wpAny_standAt (wpAny_bind (wpAny_holding ?_)))
  refine setattr_ok I1 h1 (by rw [G.K]; exact hc) (by rw [G.K]; exact hn) (by rw [List.length_zip]; omega) ru fun s3 I3 => ?_
  obtain ⟨us, p1, p2, p3⟩ := put_rep (f := f) (r.mono e1) hl h2
  rw [p1] at I3
  exact wpAny_release ⟨σ, _, I3, F1, _, δ, e1, st1.setI hm p3 p2, sl.mono e1, q⟩
end

/-! ### small statements -/
theorem sxs_nil (q : O.nx δ M) : SXs g c [] δ M O := fun X F0 G F σ H eF st sl => wSs_of pss_nil ⟨F, M, δ, Evl.Ex.refl F, st, sl, q⟩
theorem sxs_cons (h : SX g c st δ M { O with nx := fun δ1 M1 => SXs g c sts δ1 M1 O }) : SXs g c (st :: sts) δ M O := by
  intro X F0 G F σ H eF st' sl
  refine wSs_of (pss_cons ps_wS pss_wSs) (wS_mono (h X F0 G F σ H eF st' sl) ⟨fun σ1 H1 q => ?_, fun _ _ q => q, fun _ _ q => q, fun _ _ q => q⟩)
  obtain ⟨F1, M1, δ1, e1, st1, sl1, q⟩ := q
  exact wSs_mono ((show SXs g c sts δ1 M1 O from q) X F0 G F1 σ1 H1 (eF.trans e1) st1 sl1) (PoO.back e1)
theorem sxs_one (h : SX g c st δ M O) : SXs g c [st] δ M O := fun X F0 G F σ H eF st' sl => wSs_of (pss_one ps_wS) (h X F0 G F σ H eF st' sl)
theorem sx_pass (q : O.nx δ M) : SX g c (.Pass pos) δ M O := fun X F0 G F σ H eF st sl => wS_of ps_pass ⟨F, M, δ, Evl.Ex.refl F, st, sl, q⟩
theorem sx_expr (h : EX g c e δ M fun _ M1 => O.nx δ M1) (hs : ∀ env, swapsWith e none pos.line env = pure false := by intro _; rfl) : SX g c (.Expr e pos) δ M O := fun X F0 G F σ H eF st sl => by
  refine wS_of (ps_expr pe_wE (hs X.env)) (wE_mono (h X F0 G F σ H eF st sl) fun v H1 q => ?_)
  obtain ⟨F1, M1, d, e1, st1, r, q⟩ := q
  exact ⟨F1, M1, δ, e1, st1, sl.mono e1, q⟩
theorem sx_ret (h : EX g c e δ M O.rt) : SX g c (.Return (some e) pos) δ M O := fun X F0 G F σ H eF st sl => wS_of (ps_ret pe_wE) (h X F0 G F σ H eF st sl)
theorem sx_retN (q : O.rt .non M) : SX g c (.Return none pos) δ M O := fun X F0 G F σ H eF st sl => wS_of ps_retN ⟨F, M, .non, Evl.Ex.refl F, st, rfl, q⟩
theorem sx_if {t : Expr} {xs ys : List Stmt} (h : TX g c t δ M fun k M1 => cond k (SXs g c xs δ M1 O) (SXs g c ys δ M1 O)) : SX g c (.If t xs ys pos) δ M O := by
  intro X F0 G F σ H eF st sl
  refine wS_of (ps_if pt_wT pss_wSs pss_wSs) (wT_mono (h X F0 G F σ H eF st sl) fun k H1 q => ?_)
  obtain ⟨F1, M1, e1, st1, q⟩ := q
  cases k with
  | true =>
    rw [if_pos rfl]
    exact wSs_mono ((show SXs g c xs δ M1 O from q) X F0 G F1 σ H1 (eF.trans e1) st1 (sl.mono e1)) (PoO.back e1)
  | false =>
    rw [if_neg Bool.false_ne_true]
    exact wSs_mono ((show SXs g c ys δ M1 O from q) X F0 G F1 σ H1 (eF.trans e1) st1 (sl.mono e1)) (PoO.back e1)
theorem sx_set {i : Nat} {x : Str} {p : Pos} (hN : c.N[i]? = some x) (hx : locB c x = true) (h : EX g c e δ M fun d M1 => O.nx (δ.set i (some d)) M1) (hs : ∀ env, swapsWith e (some (.Name x p)) pos.line env = pure false := by intro _; rfl) : SX g c (.Assign [.Name x p] e pos) δ M O := by
  intro X F0 G F σ H eF st sl
  refine wS_of (ps_set (i := i) (by rw [G.N]; exact G.nd) (by rw [G.N]; exact hN) (G.loc hx).1 pe_wE (hs X.env) (G.loc hx).2) (wE_mono (h X F0 G F σ H eF st sl) fun v H1 q => ?_)
  obtain ⟨F1, M1, d, e1, st1, r, q⟩ := q
  exact ⟨F1, M1, _, e1, st1, (sl.mono e1).set r, q⟩
/-- any one target -/
theorem sx_asg {tg : Expr} (h : EX g c e δ M fun d M1 => GX g c tg d δ M1 O.nx) (hs : ∀ env, swapsWithSole [tg] e pos.line env = pure false := by intro _; rfl) (hw : ∀ env : PySem.Env, env.scope = c.sc → swappedStores [tg] e env = pure none := by intro _ _; rfl)
    (h1 : ∀ env, (assignEach [tg] env).map (·.2) = [assign tg env] := by intro _; rfl) : SX g c (.Assign [tg] e pos) δ M O := by
  intro X F0 G F σ H eF st sl
  refine wS_of (ps_asg pe_wE pg_wG (hs X.env) (hw X.env G.sc) (h1 X.env)) (wE_mono (h X F0 G F σ H eF st sl) fun v H1 q => ?_)
  obtain ⟨F1, M1, d, e1, st1, r, q⟩ := q
  exact wG_mono (q X F0 G F1 σ H1 v (eF.trans e1) st1 (sl.mono e1) r) fun _ _ q => PoN.back e1 q
/-- o.f = e -/
theorem sx_fld {o : Expr} {f : Str} {C : Addr} {p' : Pos} (hc : Cls g.K C) (hn : NoAttr g.K C f)
    (h : EX g c e δ M fun d M1 => EX g c o δ M1 fun x M2 => ∃ p ns ds, x = .ref p ∧ M2 p = some (.ins C ns ds) ∧ ns.length < 1000 ∧ O.nx δ (mup M2 p (.ins C (putN f ns) (putDs f d ns ds))))
    (hs : ∀ env, swapsWith e (some (.Attribute o f p')) pos.line env = pure false := by intro _; rfl) : SX g c (.Assign [.Attribute o f p'] e pos) δ M O := by
  intro X F0 G F σ H eF st sl
  refine wS_of (ps_fld pe_wE pe_wE (hs X.env)) (two (R := fun y x H2 => ∃ a C dx fs, x = .ref a ∧ H2 a = some (.ins C dx fs) ∧ Cls X.K C ∧ NoAttr X.K C f ∧ fs.length < 1000 ∧ (PoO g F O).nx σ (upd H2 a (.ins C dx (putF f y fs)))) h G eF st sl fun F' H' M' v u d x e1 s1 r1 r2 k => ?_)
  obtain ⟨p, ns, ds, rfl, hm, hz, q⟩ := k
  obtain ⟨_, dx, vs, h1, hl, h2⟩ := s1.mem p _ hm
  obtain ⟨us, p1, p2, p3⟩ := put_rep (f := f) r1 hl h2
  refine ⟨p, C, dx, _, r2, h1, by rw [G.K]; exact hc, by rw [G.K]; exact hn, by rw [List.length_zip]; omega, F', _, δ, e1, ?_, sl.mono e1, q⟩
  rw [p1]
  exact s1.setI hm p3 p2
/-- a, b = x, y: plain local names -/
theorem sx_par {i j : Nat} {x y : Str} {px py pt : Pos} {kt k2 : Nat} {pt2 : Pos} (hi : c.N[i]? = some x) (hj : c.N[j]? = some y) (hij : i ≠ j) (hx : c.sc.names.lookup x = some .local) (hy : c.sc.names.lookup y = some .local)
    (hw : ∀ env : PySem.Env, env.scope = c.sc → swappedStores [.Tuple [.Name x px, .Name y py] kt pt] (.Tuple [a, b] k2 pt2) env = pure (some [x, y]))
    (h : AX g c [a, b] δ M fun ds M1 => ∃ d d', ds = [d, d'] ∧ O.nx ((δ.set i (some d)).set j (some d')) M1) (hs : ∀ env, swapsWithSole [.Tuple [.Name x px, .Name y py] kt pt] (.Tuple [a, b] k2 pt2) pos.line env = pure false := by intro _; rfl) :
    SX g c (.Assign [.Tuple [.Name x px, .Name y py] kt pt] (.Tuple [a, b] k2 pt2) pos) δ M O := by
  intro X F0 G F σ H eF st sl
  refine wS_of (ps_par (i := i) (j := j) G.calm (by rw [G.N]; exact G.nd) (by rw [G.N]; exact hi) (by rw [G.N]; exact hj) hij (by rw [G.sc]; exact hx) (by rw [G.sc]; exact hy) pa_wA (hw X.env G.sc) (hs X.env)) (wA_mono (h X F0 G F σ H eF st sl) fun vs H1 q => ?_)
  obtain ⟨F1, M1, ds, e1, st1, r, d, d', rfl, q⟩ := q
  obtain ⟨v, us, rfl, r1, w, us', rfl, r2, e3⟩ := r
  obtain rfl : us' = [] := e3
  exact ⟨v, w, rfl, F1, M1, _, e1, st1, ((sl.mono e1).set r1).set r2, q⟩
theorem sx_par3 {i j l : Nat} {x y z : Str} {d3 : Expr} {px py pz pt : Pos} {kt k2 : Nat} {pt2 : Pos} (hi : c.N[i]? = some x) (hj : c.N[j]? = some y) (hl : c.N[l]? = some z) (hij : i ≠ j) (hil : i ≠ l) (hjl : j ≠ l)
    (hx : c.sc.names.lookup x = some .local) (hy : c.sc.names.lookup y = some .local) (hz : c.sc.names.lookup z = some .local)
    (hw : ∀ env : PySem.Env, env.scope = c.sc → swappedStores [.Tuple [.Name x px, .Name y py, .Name z pz] kt pt] (.Tuple [a, b, d3] k2 pt2) env = pure (some [x, y, z]))
    (h : AX g c [a, b, d3] δ M fun ds M1 => ∃ d d' d'', ds = [d, d', d''] ∧ O.nx (((δ.set i (some d)).set j (some d')).set l (some d'')) M1) (hs : ∀ env, swapsWithSole [.Tuple [.Name x px, .Name y py, .Name z pz] kt pt] (.Tuple [a, b, d3] k2 pt2) pos.line env = pure false := by intro _; rfl) :
    SX g c (.Assign [.Tuple [.Name x px, .Name y py, .Name z pz] kt pt] (.Tuple [a, b, d3] k2 pt2) pos) δ M O := by
  intro X F0 G F σ H eF st sl
  refine wS_of (ps_par3 (i := i) (j := j) (l := l) G.calm (by rw [G.N]; exact G.nd) (by rw [G.N]; exact hi) (by rw [G.N]; exact hj) (by rw [G.N]; exact hl) hij hil hjl (by rw [G.sc]; exact hx) (by rw [G.sc]; exact hy) (by rw [G.sc]; exact hz) pa_wA (hw X.env G.sc) (hs X.env)) (wA_mono (h X F0 G F σ H eF st sl) fun vs H1 q => ?_)
  obtain ⟨F1, M1, ds, e1, st1, r, d, d', d'', rfl, q⟩ := q
  obtain ⟨v, us, rfl, r1, w, us', rfl, r2, u, us'', rfl, r3, e3⟩ := r
  obtain rfl : us'' = [] := e3
  exact ⟨v, w, u, rfl, F1, M1, _, e1, st1, (((sl.mono e1).set r1).set r2).set r3, q⟩
/-- name += e, name -= e on ints -/
theorem sx_aug {i : Nat} {x : Str} {p : Pos} {op : Operator} {f : Int → Int → Int} (ho : ∀ X : Cx, PIp X op (ipI f)) (hN : c.N[i]? = some x) (hx : locB c x = true)
    (h : ∃ m, δ[i]? = some (some (.int m)) ∧ EX g c e δ M fun d M1 => ∃ n, d = .int n ∧ O.nx (δ.set i (some (.int (f m n)))) M1) : SX g c (.AugAssign (.Name x p) op e pos) δ M O := by
  intro X F0 G F σ H eF st sl
  obtain ⟨m, hm, h⟩ := h
  obtain ⟨v, hv, rv⟩ := sl.get i _ hm
  refine wS_of (ps_aug (i := i) (by rw [G.N]; exact G.nd) (by rw [G.N]; exact hN) (G.loc hx).1 pe_wE (ho X) (G.loc hx).2) ⟨v, hv, wE_mono (h X F0 G F σ H eF st sl) fun u H1 q => ?_⟩
  obtain ⟨F1, M1, d, e1, st1, r, n, rfl, q⟩ := q
  exact ⟨m, n, rv, r, F1, M1, _, e1, st1, (sl.mono e1).set (d := .int (f m n)) rfl, q⟩
def rGetL (K : PySem.W.Frag) : V → V → Hp → VK → Prop := fun x y H Q => ∃ p xs i v, x = .ref p ∧ y = .int i ∧ SqL K H p xs ∧ 0 ≤ i ∧ xs[i.toNat]? = some v ∧ Q v H
theorem get_listR {X : Cx} : PGet X (rGetL X.K) := by
  intro pins s σ H o i ov iv Q I r1 r2 h
  obtain ⟨p, xs, j, v, rfl, rfl, hl, h0, hj, q⟩ := h
  obtain rfl : ov = Value.ref p := r1
  obtain ⟨t, rfl⟩ := r2
  obtain ⟨its, r, pl, hz⟩ := I.list hl
  obtain ⟨u, hu, ru⟩ := r.get hj
  have hn := line63
  have hlt := (List.getElem?_eq_some_iff.mp hj).1
  exact wpAny_getItem_list pl.isList h0 (by omega) (by simpa using hu) ⟨v, H, I, ru, q⟩
/-- l[i] += e, l[i] -= e: ints in a list that may change -/
theorem sx_augS {op : Operator} {f : Int → Int → Int} {tpos : Pos} (ho : ∀ X : Cx, PIp X op (ipI f))
    (h : EX g c a δ M fun x M1 => EX g c b δ M1 fun y M2 => ∃ p ds i m, x = .ref p ∧ y = .int i ∧ M2 p = some (.lst ds) ∧ 0 ≤ i ∧ ds[i.toNat]? = some (.int m) ∧
      EX g c e δ M2 fun d M3 => ∃ n, d = .int n ∧ M3 p = some (.lst ds) ∧ O.nx δ (mup M3 p (.lst (ds.set i.toNat (.int (f m n))))))
    (ha : ∀ ov iv new, augStore b ov iv new = (do holding [new, ov, iv] (setItem ov iv new); release [new, ov, iv] []; pure .next) := by intros; rfl) : SX g c (.AugAssign (.Subscript a b tpos) op e pos) δ M O := by
  intro X F0 G F σ H eF st sl
  refine wS_of (ps_augS pe_wE pe_wE get_listR pe_wE (ho X) set_list ha) ?_
  refine two (R := fun v u H2 => rGetL X.K v u H2 fun x H3 => wE X e σ H3 fun y H4 => ipI f x y H4 fun z H5 => rSetL v u z H5 fun H6 => (PoO g F O).nx σ H6) h G eF st sl fun F' H' M' v u x y e1 s1 r1 r2 k => ?_
  obtain ⟨p, ds, i, m, rfl, rfl, hm, h0, hi, k⟩ := k
  obtain ⟨_, vs, h1, h2⟩ := s1.mem p _ hm
  obtain ⟨w, hw, rw'⟩ := h2.get hi
  refine ⟨p, vs, i, w, r1, r2, SqL.of h1, h0, hw, wE_mono (k X F0 G F' σ H' (eF.trans e1) s1 (sl.mono e1)) fun y H4 q => ?_⟩
  obtain ⟨F4, M4, d, e4, st4, rd, n, rfl, hm4, q⟩ := q
  obtain ⟨_, vs4, h14, h24⟩ := st4.mem p _ hm4
  have hlt := (List.getElem?_eq_some_iff.mp hi).1
  refine ⟨m, n, rw', rd, p, vs4, i, i.toNat, r1, r2, h14, ?_, F4, _, δ, e1.trans e4, st4.setL hm4 (h24.set (d := .int (f m n)) rfl _), sl.mono (e1.trans e4), q⟩
  unfold ixN
  rw [h24.length, if_pos h0, if_pos (by omega)]
end DL

set_option Elab.async false
set_option linter.all false
set_option maxRecDepth 100000
set_option maxHeartbeats 1000000
/-! # The D-layer, part 6: what is walked, for, while, comprehensions -/
namespace DL
open PySem PySem.Spec PyProof.Rows L2
open Evl (Ex)
variable {g : Gb} {c : Cz} {δ : Sl} {M : Mem} {Q : D → Mem → Prop} {R : Bool → Mem → Prop} {O : Od} {pos : Pos} {a b e : Expr} {rest es : List Expr} {st : Stmt} {sts : List Stmt}

def wI (X : Cx) (tg iter : Expr) : TI := fun σ H R => ∀ pins s, Inv X pins σ H s → wpAny (model X.prog X.w) X.A (eval iter X.env) (fun v s1 => wpAny (model X.prog X.w) X.A (pyIter v) (PIE X pins σ tg R) X.xe s1) X.xe s
theorem pi_wI {X : Cx} {tg iter : Expr} : PI X tg iter (wI X tg iter) := ⟨fun pins s σ H R I h => h pins s I⟩
theorem wI_of {X : Cx} {tg iter : Expr} {wi : TI} {σ : L2.St} {H : Hp} {R : It → Hp → Prop} (p : PI X tg iter wi) (q : wi σ H R) : wI X tg iter σ H R := fun pins s I => p.run pins s σ H R I q
/-- the walk J gives the data ds one by one while stay stands -/
structure Wk (g : Gb) (Fs : Hp) (J : It) (ds : List D) (stay : Mem → Prop) : Prop where
  go : ∀ i F M H, Ex Fs F → Sto g.K F M H → stay M → i < ds.length → J.go i H
  stop : ∀ F M H, Ex Fs F → Sto g.K F M H → stay M → J.stop ds.length H
  yld : ∀ i F M H x H', Ex Fs F → Sto g.K F M H → stay M → i < ds.length → J.yld i H x H' → ∃ F' d, Ex F F' ∧ Sto g.K F' M H' ∧ ds[i]? = some d ∧ Rep g.K F' d x
def IX (g : Gb) (c : Cz) (tg iter : Expr) (δ : Sl) (M : Mem) (Q : List D → (Mem → Prop) → Mem → Prop) : Prop := ∀ X F0, Good g c X F0 → ∀ F σ H, Ex F0 F → Sto g.K F M H → SlotsR g.K F δ σ →
  wI X tg iter σ H fun J H' => ∃ F' M' ds stay, Ex F F' ∧ Sto g.K F' M' H' ∧ Wk g F' J ds stay ∧ stay M' ∧ Q ds stay M'

/-! ### sources -/
def Still (M : Mem) (x : D) : Mem → Prop := match x with
  | .ref a => fun M' => M' a = M a
  | _ => fun _ => True
theorem Still.self (M : Mem) (x : D) : Still M x M := by
  cases x with
  | ref a => rfl
  | _ => trivial
theorem SeqD.still {M' : Mem} {x : D} {ds : List D} (h : SeqD M x ds) (s : Still M x M') : SeqD M' x ds := by
  cases x with
  | ref a => exact (show M' a = M a from s).trans h
  | _ => exact h
theorem wk_list {F H : Hp} {x : D} {v : V} {p : Addr} {ds : List D} (hx : SeqD M x ds) (r : Rep g.K F x v) (hv : v = .ref p)
    (hl : ∀ F' M' H', Ex F F' → Sto g.K F' M' H' → Still M x M' → ∃ vs, SqL g.K H' p vs ∧ Reps g.K F' ds vs) : Wk g F (Itl g.K p) ds (Still M x) := by
  refine ⟨fun i F' M' H' e s st hi => ?_, fun F' M' H' e s st => ?_, fun i F' M' H' u H2 e s st hi y => ?_⟩
  · obtain ⟨vs, h1, h2⟩ := hl F' M' H' e s st
    have hz : i < vs.length := by rw [h2.length]; exact hi
    exact ⟨vs, vs[i], h1, by simp [hz]⟩
  · obtain ⟨vs, h1, h2⟩ := hl F' M' H' e s st
    exact ⟨vs, h1, Nat.le_of_eq h2.length⟩
  · obtain ⟨vs, h1, h2⟩ := hl F' M' H' e s st
    obtain ⟨rfl, hy⟩ := y
    obtain ⟨d, h3, h4⟩ := h2.get' (hy vs h1)
    exact ⟨F', d, Evl.Ex.refl F', s, h3, h4⟩
theorem wk_tup {F : Hp} {p : Addr} {ds : List D} {vs : List V} (h : SqT g.K F p vs) (r : Reps g.K F ds vs) : Wk g F (Itt g.K p) ds (fun _ => True) := by
  refine ⟨fun i F' M' H' e s st hi => ?_, fun F' M' H' e s st => ?_, fun i F' M' H' u H2 e s st hi y => ?_⟩
  · have hz : i < vs.length := by rw [r.length]; exact hi
    exact ⟨vs, vs[i], Evl.ex_t (e.trans s.ex) h, by simp [hz]⟩
  · exact ⟨vs, Evl.ex_t (e.trans s.ex) h, Nat.le_of_eq r.length⟩
  · obtain ⟨rfl, hy⟩ := y
    obtain ⟨d, h3, h4⟩ := (r.mono e).get' (hy vs (Evl.ex_t (e.trans s.ex) h))
    exact ⟨F', d, Evl.Ex.refl F', s, h3, h4⟩
theorem list_src {F H F' H' : Hp} {M' : Mem} {x : D} {v : V} {p : Addr} {ds : List D} (hx : LstD M x ds) (r : Rep g.K F x v) (hv : v = .ref p) (e : Ex F F') (s : Sto g.K F' M' H') (st : Still M x M') : ∃ vs, H' p = some (.lst vs) ∧ Reps g.K F' ds vs := by
  have hx' : LstD M' x ds := by
    cases x with
    | ref a => exact (show M' a = M a from st).trans hx
    | _ => exact hx
  obtain ⟨q, vs, h1, h2, h3⟩ := hx'.rep s (r.mono e)
  rw [hv] at h1
  cases h1
  exact ⟨vs, h2, h3⟩
/-- over a list, a tuple -/
theorem ix_lst {tg : Expr} {QI : List D → (Mem → Prop) → Mem → Prop} (h : EX g c a δ M fun x M1 => ∃ ds, LstD M1 x ds ∧ QI ds (Still M1 x) M1) : IX g c tg a δ M QI := by
  intro X F0 G F σ H eF st sl
  refine wI_of (pi_list pe_wE) (wE_mono (h X F0 G F σ H eF st sl) fun v H1 q => ?_)
  obtain ⟨F1, M1, x, e1, st1, r, ds, hx, q⟩ := q
  obtain ⟨p, vs, rfl, h2, h3⟩ := hx.rep st1 r
  refine ⟨p, rfl, ⟨vs, SqL.of h2⟩, F1, M1, ds, Still M1 x, e1, st1, ?_, Still.self M1 x, q⟩
  rw [G.K]
  refine wk_list (H := H1) (x := x) (v := .ref p) ?_ r rfl fun F' M' H' e s stl => ?_
  · cases x with
    | lst xs => exact hx
    | ref a => exact hx
    | _ => exact absurd hx (fun z => z)
  · obtain ⟨us, h4, h5⟩ := list_src (H := H1) hx r rfl e s stl
    exact ⟨us, SqL.of h4, h5⟩
theorem ix_tupl {tg : Expr} {QI : List D → (Mem → Prop) → Mem → Prop} (h : EX g c a δ M fun x M1 => ∃ ds, x = .tup ds ∧ QI ds (fun _ => True) M1) : IX g c tg a δ M QI := by
  intro X F0 G F σ H eF st sl
  refine wI_of (pi_tup pe_wE) (wE_mono (h X F0 G F σ H eF st sl) fun v H1 q => ?_)
  obtain ⟨F1, M1, x, e1, st1, r, ds, rfl, q⟩ := q
  obtain ⟨p, vs, rfl, h2, h3⟩ := r
  refine ⟨p, rfl, ⟨vs, by rw [G.K]; exact Evl.ex_t st1.ex h2⟩, F1, M1, ds, fun _ => True, e1, st1, ?_, trivial, q⟩
  rw [G.K]
  exact wk_tup h2 h3
/-- over a range -/
def rngD (lo : Int) (n : Nat) : List D := (List.range n).map fun i : Nat => D.int (lo + (i : Int))
theorem wk_rng {F : Hp} {lo : Int} {n : Nat} : Wk g F (Itr lo n) (rngD lo n) (fun _ => True) := by
  have hl : (rngD lo n).length = n := by
    unfold rngD
    rw [List.length_map, List.length_range]
  refine ⟨fun i F' M' H' e s st hi => by rw [hl] at hi; exact hi, fun F' M' H' e s st => by rw [hl]; exact Nat.le_refl _, fun i F' M' H' u H2 e s st hi y => ?_⟩
  rw [hl] at hi
  obtain ⟨rfl, rfl⟩ := y
  refine ⟨F', .int (lo + (i : Int)), Evl.Ex.refl F', s, ?_, rfl⟩
  unfold rngD
  rw [List.getElem?_map, List.getElem?_range hi]
  rfl
theorem ix_rng1 {tg : Expr} {p : Pos} {QI : List D → (Mem → Prop) → Mem → Prop} (hg : gloB c.sc "range" = true) (hm : g.mg "range" = none) (h : EX g c a δ M fun x M1 => ∃ j, x = .int j ∧ -(2 ^ 62) ≤ j ∧ j < 2 ^ 62 ∧ QI (rngD 0 j.toNat) (fun _ => True) M1)
    (hs : ∀ env, starEach [a] env = [(false, eval a env)] := by intro _; rfl) : IX g c tg (.Call (.Name "range" p) [a] [] pos) δ M QI := by
  intro X F0 G F σ H eF st sl
  refine wI_of (pi_range1 (G.gl hg) (by rw [G.mg]; exact hm) (pa_cons pe_wE pa_nil (hs X.env)) (hs X.env)) ?_
  refine wE_mono (h X F0 G F σ H eF st sl) fun v H1 q => ?_
  obtain ⟨F1, M1, x, e1, st1, r, j, rfl, h1, h2, q⟩ := q
  obtain rfl : v = .int j := r
  exact ⟨j, rfl, h1, h2, F1, M1, _, fun _ => True, e1, st1, wk_rng, trivial, q⟩
theorem ix_rng2 {tg : Expr} {p : Pos} {QI : List D → (Mem → Prop) → Mem → Prop} (hg : gloB c.sc "range" = true) (hm : g.mg "range" = none)
    (h : EX g c a δ M fun x M1 => EX g c b δ M1 fun y M2 => ∃ i j, x = .int i ∧ y = .int j ∧ (-(2 ^ 62) ≤ i ∧ i < 2 ^ 62 ∧ -(2 ^ 62) ≤ j ∧ j < 2 ^ 62) ∧ QI (rngD i (j - i).toNat) (fun _ => True) M2)
    (hs : ∀ env, starEach [a, b] env = [(false, eval a env), (false, eval b env)] := by intro _; rfl) (hs2 : ∀ env, starEach [b] env = [(false, eval b env)] := by intro _; rfl) : IX g c tg (.Call (.Name "range" p) [a, b] [] pos) δ M QI := by
  intro X F0 G F σ H eF st sl
  refine wI_of (pi_range2 (G.gl hg) (by rw [G.mg]; exact hm) (pa_cons pe_wE (pa_cons pe_wE pa_nil (hs2 X.env)) (by rw [hs, hs2])) (hs X.env) (hs2 X.env)) ?_
  refine two (R := fun v u H2 => ∃ i j : Int, [v, u] = [V.int i, V.int j] ∧ (-(2 ^ 62) ≤ i ∧ i < 2 ^ 62 ∧ -(2 ^ 62) ≤ j ∧ j < 2 ^ 62) ∧ ∃ F' M' ds stay, Ex F F' ∧ Sto g.K F' M' H2 ∧ Wk g F' (Itr i (j - i).toNat) ds stay ∧ stay M' ∧ QI ds stay M') h G eF st sl fun F' H' M' v u x y e1 s1 r1 r2 k => ?_
  obtain ⟨i, j, rfl, rfl, hb, q⟩ := k
  obtain rfl : v = .int i := r1
  obtain rfl : u = .int j := r2
  exact ⟨i, j, rfl, hb, F', M', _, fun _ => True, e1, s1, wk_rng, trivial, q⟩
/-- over a text's signs -/
def sgnD (z : Str) : List D := z.cps.toList.map fun k => D.str ⟨#[k]⟩
theorem ix_str {tg : Expr} {QI : List D → (Mem → Prop) → Mem → Prop} (h : EX g c a δ M fun x M1 => ∃ z, x = .str z ∧ QI (sgnD z) (fun _ => True) M1) : IX g c tg a δ M QI := by
  intro X F0 G F σ H eF st sl
  refine wI_of (pi_str pe_wE) (wE_mono (h X F0 G F σ H eF st sl) fun v H1 q => ?_)
  obtain ⟨F1, M1, x, e1, st1, r, z, rfl, q⟩ := q
  have hl : (sgnD z).length = z.cps.size := by
    unfold sgnD
    rw [List.length_map, Array.length_toList]
  refine ⟨z, r, F1, M1, _, fun _ => True, e1, st1, ⟨fun i F' M' H' e s st hi => by rw [hl] at hi; exact hi, fun F' M' H' e s st => by rw [hl]; exact Nat.le_refl _, fun i F' M' H' u H2 e s st hi y => ?_⟩, trivial, q⟩
  obtain ⟨rfl, k, hk, rfl⟩ := y
  refine ⟨F', .str ⟨#[k]⟩, Evl.Ex.refl F', s, ?_, rfl⟩
  unfold sgnD
  rw [List.getElem?_map, Array.getElem?_toList, hk]
  rfl
/-- reversed(tuple) -/
theorem ix_rev {tg : Expr} {p : Pos} {QI : List D → (Mem → Prop) → Mem → Prop} (hg : gloB c.sc "reversed" = true) (hm : g.mg "reversed" = none) (h : EX g c a δ M fun x M1 => ∃ ds, x = .tup ds ∧ QI ds.reverse (fun _ => True) M1)
    (hs : ∀ env, starEach [a] env = (false, eval a env) :: starEach [] env := by intro _; rfl) : IX g c tg (.Call (.Name "reversed" p) [a] [] pos) δ M QI := by
  intro X F0 G F σ H eF st sl
  refine wI_of (RT.pi_revA (G.gl hg) (by rw [G.mg]; exact hm) pe_wE (hs X.env)) (wE_mono (h X F0 G F σ H eF st sl) fun v H1 q => ?_)
  obtain ⟨F1, M1, x, e1, st1, r, ds, rfl, q⟩ := q
  obtain ⟨p, vs, rfl, h2, h3⟩ := r
  refine ⟨p, vs, rfl, .inr ⟨by rw [G.K]; exact Evl.ex_t st1.ex h2, F1, M1, _, fun _ => True, e1, st1, ?_, trivial, q⟩⟩
  rw [G.K]
  have hl := h3.length
  refine ⟨fun i F' M' H' e s st hi => ?_, fun F' M' H' e s st => ?_, fun i F' M' H' u H2 e s st hi y => ?_⟩
  · rw [List.length_reverse] at hi
    have hz : vs.length - 1 - i < vs.length := by omega
    exact ⟨by omega, vs, vs[vs.length - 1 - i], Evl.ex_t (e.trans s.ex) h2, by simp [hz]⟩
  · show vs.length ≤ ds.reverse.length
    rw [List.length_reverse, hl]
    exact Nat.le_refl _
  · rw [List.length_reverse] at hi
    obtain ⟨rfl, hy⟩ := y
    obtain ⟨d, h4, h5⟩ := (h3.mono e).get' (hy vs (Evl.ex_t (e.trans s.ex) h2))
    refine ⟨F', d, Evl.Ex.refl F', s, ?_, h5⟩
    rw [List.getElem?_reverse hi, ← hl]
    exact h4
/-- pairs -/
def zipD : List D → List D → List D
  | x :: xs, y :: ys => .tup [x, y] :: zipD xs ys
  | _, _ => []
theorem zipD_get : ∀ {xs ys : List D} {i : Nat}, i < (zipD xs ys).length → ∃ x y, xs[i]? = some x ∧ ys[i]? = some y ∧ (zipD xs ys)[i]? = some (.tup [x, y])
  | [], _, _, h => by cases h
  | _ :: _, [], _, h => by cases h
  | x :: xs, y :: ys, 0, _ => ⟨x, y, rfl, rfl, rfl⟩
  | x :: xs, y :: ys, i + 1, h => by
    obtain ⟨u, w, h1, h2, h3⟩ := zipD_get (xs := xs) (ys := ys) (i := i) (Nat.lt_of_succ_lt_succ h)
    exact ⟨u, w, by simpa using h1, by simpa using h2, by simpa [zipD] using h3⟩
theorem zipD_end : ∀ {xs ys : List D}, xs.length ≤ (zipD xs ys).length ∨ ys.length ≤ (zipD xs ys).length
  | [], _ => .inl (Nat.zero_le _)
  | _ :: _, [] => .inr (Nat.zero_le _)
  | x :: xs, y :: ys => by
    rcases zipD_end (xs := xs) (ys := ys) with h | h
    · exact .inl (Nat.succ_le_succ h)
    · exact .inr (Nat.succ_le_succ h)
/-- zip of two tuples -/
theorem ix_zipT {elts : List Expr} {kk : Nat} {tpos p : Pos} {QI : List D → (Mem → Prop) → Mem → Prop} (hg : gloB c.sc "zip" = true) (hm : g.mg "zip" = none)
    (h : EX g c a δ M fun x M1 => EX g c b δ M1 fun y M2 => ∃ xs ys, x = .tup xs ∧ y = .tup ys ∧ QI (zipD xs ys) (fun _ => True) M2)
    (hs : ∀ env, starEach [a, b] env = (false, eval a env) :: starEach [b] env := by intro _; rfl) (hs2 : ∀ env, starEach [b] env = (false, eval b env) :: starEach [] env := by intro _; rfl) (hpl : ∀ env, (backTo pos (starEach [b] env)).any (·.1) = false := by intro _; rfl) :
    IX g c (.Tuple elts kk tpos) (.Call (.Name "zip" p) [a, b] [] pos) δ M QI := by
  intro X F0 G F σ H eF st sl
  refine wI_of (RZ.pi_zipA (G.gl hg) (by rw [G.mg]; exact hm) (pa_cons pe_wE (pa_cons pe_wE pa_nil (hs2 X.env)) (hs X.env)) (hs X.env) (hpl X.env)) ?_
  refine two (R := fun v u H2 => ∃ a b xs ys, [v, u] = [V.ref a, V.ref b] ∧ ((SqL X.K H2 a xs ∧ SqL X.K H2 b ys ∧ ∃ F' M' ds stay, Ex F F' ∧ Sto g.K F' M' H2 ∧ Wk g F' (Itz X.K a b) ds stay ∧ stay M' ∧ QI ds stay M') ∨
    (SqT X.K H2 a xs ∧ SqT X.K H2 b ys ∧ ∃ F' M' ds stay, Ex F F' ∧ Sto g.K F' M' H2 ∧ Wk g F' (RZ.ItzT X.K a b) ds stay ∧ stay M' ∧ QI ds stay M'))) h G eF st sl fun F' H' M' v u x y e1 s1 r1 r2 k => ?_
  obtain ⟨xs, ys, rfl, rfl, q⟩ := k
  obtain ⟨p1, vs, rfl, h1, h2⟩ := r1
  obtain ⟨p2, us, rfl, h3, h4⟩ := r2
  refine ⟨p1, p2, vs, us, rfl, .inr ⟨by rw [G.K]; exact Evl.ex_t s1.ex h1, by rw [G.K]; exact Evl.ex_t s1.ex h3, F', M', _, fun _ => True, e1, s1, ?_, trivial, q⟩⟩
  rw [G.K]
  refine ⟨fun i F2 M2 H2 e s st hi => ?_, fun F2 M2 H2 e s st => ?_, fun i F2 M2 H2 u H3 e s st hi y => ?_⟩
  · obtain ⟨d, d', e3, e4, _⟩ := zipD_get hi
    obtain ⟨w, hw, _⟩ := h2.get e3
    obtain ⟨w', hw', _⟩ := h4.get e4
    exact ⟨vs, us, w, w', Evl.ex_t (e.trans s.ex) h1, Evl.ex_t (e.trans s.ex) h3, hw, hw'⟩
  · exact ⟨vs, us, Evl.ex_t (e.trans s.ex) h1, Evl.ex_t (e.trans s.ex) h3, by rw [h2.length, h4.length]; exact zipD_end⟩
  · obtain ⟨T, w, w', rfl, hT, rfl, hy1, hy2⟩ := y
    obtain ⟨d, d', e3, e4, e5⟩ := zipD_get hi
    obtain ⟨d1, g1, g2⟩ := (h2.mono e).get' (hy1 vs (Evl.ex_t (e.trans s.ex) h1))
    obtain ⟨d2, g3, g4⟩ := (h4.mono e).get' (hy2 us (Evl.ex_t (e.trans s.ex) h3))
    rw [e3] at g1
    rw [e4] at g3
    cases g1
    cases g3
    obtain ⟨f1, f2⟩ := s.frozen (o := .tup [w, w']) hT
    exact ⟨_, _, f1, f2, e5, T, _, rfl, SqT.of upd_same, .cons (g2.mono f1) (.cons (g4.mono f1) .nil)⟩
/-- enumerate(list) -/
def enuD (n : Int) : List D → List D
  | [] => []
  | x :: xs => .tup [.int n, x] :: enuD (n + 1) xs
theorem enuD_len : ∀ {xs : List D} {n : Int}, (enuD n xs).length = xs.length
  | [], _ => rfl
  | _ :: xs, n => by
    show (enuD (n + 1) xs).length + 1 = xs.length + 1
    rw [enuD_len]
theorem enuD_get : ∀ {xs : List D} {n : Int} {i : Nat} {x : D}, xs[i]? = some x → (enuD n xs)[i]? = some (.tup [.int (n + i), x])
  | [], _, _, _, h => by simp at h
  | y :: xs, n, 0, x, h => by
    simp at h
    subst h
    show some (D.tup [.int n, y]) = some (.tup [.int (n + ((0 : Nat) : Int)), y])
    rw [show n + ((0 : Nat) : Int) = n by omega]
  | y :: xs, n, i + 1, x, h => by
    have ih := enuD_get (xs := xs) (n := n + 1) (i := i) (x := x) (by simpa using h)
    show (enuD (n + 1) xs)[i]? = _
    rw [ih, show n + 1 + (i : Int) = n + ((i + 1 : Nat) : Int) by omega]
theorem ix_enL {elts : List Expr} {kk : Nat} {tpos p : Pos} {QI : List D → (Mem → Prop) → Mem → Prop} (hg : gloB c.sc "enumerate" = true) (hm : g.mg "enumerate" = none) (h : EX g c a δ M fun x M1 => ∃ ds, LstD M1 x ds ∧ QI (enuD 0 ds) (Still M1 x) M1)
    (hs : ∀ env, starEach [a] env = [(false, eval a env)] := by intro _; rfl) : IX g c (.Tuple elts kk tpos) (.Call (.Name "enumerate" p) [a] [] pos) δ M QI := by
  intro X F0 G F σ H eF st sl
  refine wI_of (pi_enum (G.gl hg) (by rw [G.mg]; exact hm) (pa_cons pe_wE pa_nil (hs X.env)) (hs X.env)) (wE_mono (h X F0 G F σ H eF st sl) fun v H1 q => ?_)
  obtain ⟨F1, M1, x, e1, st1, r, ds, hx, q⟩ := q
  obtain ⟨p, vs, rfl, h2, h3⟩ := hx.rep st1 r
  refine ⟨p, vs, rfl, SqL.of h2, F1, M1, _, Still M1 x, e1, st1, ?_, Still.self M1 x, q⟩
  rw [G.K]
  refine ⟨fun i F' M' H' e s stl hi => ?_, fun F' M' H' e s stl => ?_, fun i F' M' H' u H3 e s stl hi y => ?_⟩
  · obtain ⟨us, h4, h5⟩ := list_src (H := H1) hx r rfl e s stl
    rw [enuD_len] at hi
    have hz : i < us.length := by rw [h5.length]; exact hi
    exact ⟨us, us[i], SqL.of h4, by simp [hz]⟩
  · obtain ⟨us, h4, h5⟩ := list_src (H := H1) hx r rfl e s stl
    exact ⟨us, SqL.of h4, by rw [h5.length, enuD_len]; exact Nat.le_refl _⟩
  · obtain ⟨us, h4, h5⟩ := list_src (H := H1) hx r rfl e s stl
    obtain ⟨T, w, rfl, hT, rfl, hy⟩ := y
    obtain ⟨d, g1, g2⟩ := h5.get' (hy us (SqL.of h4))
    obtain ⟨f1, f2⟩ := s.frozen (o := .tup [.int (i : Nat), w]) hT
    refine ⟨_, _, f1, f2, enuD_get g1, T, _, rfl, SqT.of upd_same, .cons ?_ (.cons (g2.mono f1) .nil)⟩
    show V.int (i : Nat) = V.int (0 + (i : Int))
    rw [Int.zero_add]

/-! ### for, while -/
theorem sx_for {tg iter : Expr} {body : List Stmt}
    (h : IX g c tg iter δ M fun ds stay M1 => ∃ Pv : Nat → Sl → Mem → Prop, Pv 0 δ M1 ∧ (∀ i δ' M', Pv i δ' M' → stay M') ∧
      (∀ i d δ' M', ds[i]? = some d → Pv i δ' M' → GX g c tg d δ' M' fun δ2 M2 => SXs g c body δ2 M2 { O with nx := Pv (i + 1), ct := Pv (i + 1), bk := O.nx }) ∧ (∀ δ' M', Pv ds.length δ' M' → O.nx δ' M'))
    (hs : ∀ env x, foldedSetIterable iter env x = pure x := by intro _ _; rfl) : SX g c (.For tg iter body [] pos) δ M O := by
  intro X F0 G F σ H eF st sl
  refine wS_of (ps_for G.pas G.calm pi_wI pg_wG pss_wSs (hs X.env)) ?_
  intro pins s I
  refine thn (h X F0 G F σ H eF st sl pins s I) fun v s1 h1 => thn h1 fun itv s2 h2 => ?_
  obtain ⟨it, fp, tn, J, H1, ev, I1, T, t0, f0, F1, M1, ds, stay, e1, st1, wk, sty, Pv, p0, pstay, pturn, pend⟩ := h2
  refine ⟨it, fp, tn, J, H1, ev, I1, T, t0, f0, fun i m σ' H' => m = ds.length - i ∧ i ≤ ds.length ∧ ∃ F' M' δ', Ex F1 F' ∧ Sto g.K F' M' H' ∧ SlotsR g.K F' δ' σ' ∧ Pv i δ' M', ⟨ds.length, by simp, Nat.zero_le _, F1, M1, δ, Evl.Ex.refl F1, st1, sl.mono e1, p0⟩, ?_⟩
  rintro i m σ' H' ⟨rfl, hi, F', M', δ', e', st', sl', p⟩
  by_cases hlt : i < ds.length
  · refine .inr ⟨wk.go i F' M' H' e' st' (pstay i δ' M' p) hlt, fun σ2 H2 => ∃ F2 M2 δ2, Ex F1 F2 ∧ Sto g.K F2 M2 H2 ∧ SlotsR g.K F2 δ2 σ2 ∧ Pv (i + 1) δ2 M2, fun σ2 H2 ⟨F2, M2, δ2, a1, a2, a3, a4⟩ => ⟨ds.length - (i + 1), by omega, rfl, hlt, F2, M2, δ2, a1, a2, a3, a4⟩, fun x H2 y => ?_⟩
    obtain ⟨F2, d, e2, st2, hd, r⟩ := wk.yld i F' M' H' x H2 e' st' (pstay i δ' M' p) hlt y
    have q := pturn i d δ' M' hd p
    have eF2 : Ex F0 F2 := ((eF.trans e1).trans e').trans e2
    refine wG_mono (q X F0 G F2 σ' H2 x eF2 st2 (sl'.mono e2) r) fun σ3 H3 q3 => ?_
    obtain ⟨F3, M3, δ3, e3, st3, sl3, q3⟩ := q3
    have ee : Ex F F3 := (e1.trans e').trans (e2.trans e3)
    have ee1 : Ex F1 F3 := e'.trans (e2.trans e3)
    refine wSs_mono (q3 X F0 G F3 σ3 H3 (eF2.trans e3) st3 sl3) ⟨fun σ4 H4 q4 => ?_, fun v4 H4 q4 => PoE.back ee q4, fun σ4 H4 q4 => PoN.back ee q4, fun σ4 H4 q4 => ?_⟩
    · obtain ⟨F4, M4, δ4, e4, st4, sl4, q4⟩ := q4
      exact ⟨F4, M4, δ4, ee1.trans e4, st4, sl4, q4⟩
    · obtain ⟨F4, M4, δ4, e4, st4, sl4, q4⟩ := q4
      exact ⟨F4, M4, δ4, ee1.trans e4, st4, sl4, q4⟩
  · have ei : i = ds.length := by omega
    subst ei
    exact .inl ⟨wk.stop F' M' H' e' st' (pstay _ δ' M' p), F', M', δ', e1.trans e', st', sl', pend δ' M' p⟩
/-- a while by an invariant with a number that falls -/
theorem sx_while {t : Expr} {body : List Stmt} (W : Nat → Sl → Mem → Prop) (m0 : Nat) (h0 : W m0 δ M)
    (hs : ∀ m δ' M', W m δ' M' → TX g c t δ' M' fun k M1 => cond k (SXs g c body δ' M1 { O with nx := fun δ2 M2 => ∃ m', m' < m ∧ W m' δ2 M2, ct := fun δ2 M2 => ∃ m', m' < m ∧ W m' δ2 M2, bk := O.nx }) (O.nx δ' M1)) : SX g c (.While t body [] pos) δ M O := by
  intro X F0 G F σ H eF st sl
  refine wS_of (ps_while G.pas pt_wT pss_wSs) ⟨fun m σ' H' => ∃ F' M' δ', Ex F F' ∧ Sto g.K F' M' H' ∧ SlotsR g.K F' δ' σ' ∧ W m δ' M', ⟨m0, F, M, δ, Evl.Ex.refl F, st, sl, h0⟩, ?_⟩
  rintro m σ' H' ⟨F', M', δ', e', st', sl', w⟩
  refine wT_mono (hs m δ' M' w X F0 G F' σ' H' (eF.trans e') st' sl') fun k H1 q => ?_
  obtain ⟨F1, M1, e1, st1, q⟩ := q
  cases k with
  | true =>
    rw [if_pos rfl]
    refine ⟨fun σ2 H2 => ∃ F2 M2 δ2, Ex F F2 ∧ Sto g.K F2 M2 H2 ∧ SlotsR g.K F2 δ2 σ2 ∧ ∃ m', m' < m ∧ W m' δ2 M2, fun σ2 H2 ⟨F2, M2, δ2, a1, a2, a3, m', a4, a5⟩ => ⟨m', a4, F2, M2, δ2, a1, a2, a3, a5⟩, ?_⟩
    refine wSs_mono ((show SXs g c body δ' M1 _ from q) X F0 G F1 σ' H1 ((eF.trans e').trans e1) st1 (sl'.mono e1)) ⟨fun σ4 H4 q4 => ?_, fun v4 H4 q4 => PoE.back (e'.trans e1) q4, fun σ4 H4 q4 => PoN.back (e'.trans e1) q4, fun σ4 H4 q4 => ?_⟩
    · obtain ⟨F4, M4, δ4, e4, st4, sl4, q4⟩ := q4
      exact ⟨F4, M4, δ4, (e'.trans e1).trans e4, st4, sl4, q4⟩
    · obtain ⟨F4, M4, δ4, e4, st4, sl4, q4⟩ := q4
      exact ⟨F4, M4, δ4, (e'.trans e1).trans e4, st4, sl4, q4⟩
  | false =>
    rw [if_neg Bool.false_ne_true]
    exact ⟨F1, M1, δ', e'.trans e1, st1, sl'.mono e1, q⟩
end DL

set_option Elab.async false
set_option linter.all false
set_option maxRecDepth 100000
set_option maxHeartbeats 1000000
/-! # The D-layer, part 7: list comprehensions -/
namespace DL
open PySem PySem.Spec PyProof.Rows L2
open Evl (Ex)
variable {g : Gb} {c : Cz} {δ : Sl} {M : Mem} {Q : D → Mem → Prop} {R : Bool → Mem → Prop} {O : Od} {pos : Pos} {a b e : Expr} {rest es : List Expr} {st : Stmt} {sts : List Stmt}

def Cz.blk (c : Cz) (scope : Scope) : Cz := { N := c.N, sc := relS scope c.sc, k := c.k, E := NoX, fnb := fun x => scope.names.lookup x == some .cell, top := false, qual := c.qual, cd := c.cd }
theorem Good.blk {X : Cx} {F0 : Hp} {scope : Scope} (G : Good g c X F0) (hk : scope.kind = .function) (s : Shared) (H : Hp) (C : Addr) (cl : List (Str × Addr)) (fp : List Addr) : Good g (c.blk scope) (X.blk s H scope (compEnvC scope cl C X.env) fp) F0 where
  prog := G.prog
  w := G.w
  K := G.K
  mg := G.mg
  base := G.base
  N := G.N
  nd := G.nd
  sc := by
    show relS scope X.env.scope = relS scope c.sc
    rw [G.sc]
  knd := hk
  calm := G.calm
  room := G.room
  takes := fun u s' x => by
    obtain ⟨_, _, _, _, _, _, _, _, _, _, _, _, _, _, _, _, w⟩ := x
    obtain ⟨_, _, _, _, _, _, _, _, _, _, _, _, _, _, _, _, z⟩ := w
    exact z.elim
  pas := PassesOwn.never
  fn := fun x h => h
  top := fun h => Bool.noConfusion h
def wipeD (δ : Sl) : List Nat → Sl
  | [] => δ
  | v :: vs => (wipeD δ vs).set v none
theorem wipeD_len (δ : Sl) : ∀ vs : List Nat, (wipeD δ vs).length = δ.length
  | [] => rfl
  | v :: vs => by
    unfold wipeD
    rw [List.length_set, wipeD_len δ vs]
theorem SlotsR.wipe {K : PySem.W.Frag} {F : Hp} {σ : L2.St} (s : SlotsR K F δ σ) : ∀ vs : List Nat, SlotsR K F (wipeD δ vs) (L2.wipe σ vs)
  | [] => s
  | v :: vs => by
    have ih := SlotsR.wipe s vs
    refine ⟨by unfold wipeD L2.wipe; rw [List.length_set, List.length_set, ih.len], fun i d h => ?_⟩
    unfold wipeD at h
    unfold L2.wipe
    by_cases hi : v = i
    · subst hi
      by_cases hv : v < (wipeD δ vs).length
      · rw [List.getElem?_set_self hv] at h
        cases h
      · rw [List.getElem?_eq_none (by rw [List.length_set]; omega)] at h
        cases h
    · rw [List.getElem?_set_ne hi] at h
      obtain ⟨u, h1, h2⟩ := ih.get i d h
      exact ⟨u, by rw [List.getElem?_set_ne hi]; exact h1, h2⟩
theorem wipe_set {σ : L2.St} {x : Option V} {i : Nat} : ∀ {vs : List Nat}, i ∈ vs → L2.wipe (σ.set i x) vs = L2.wipe σ vs
  | [], h => by cases h
  | v :: vs, h => by
    show (L2.wipe (σ.set i x) vs).set v none = (L2.wipe σ vs).set v none
    by_cases hi : i ∈ vs
    · rw [wipe_set hi]
    · have ev : i = v := by
        rcases List.mem_cons.mp h with e | e
        · exact e
        · exact absurd e hi
      subst ev
      have key : ∀ us : List Nat, i ∉ us → L2.wipe (σ.set i x) us = (L2.wipe σ us).set i x := fun us => by
        induction us with
        | nil => exact fun _ => rfl
        | cons u us ih =>
          intro hu
          rw [List.mem_cons, not_or] at hu
          show (L2.wipe (σ.set i x) us).set u none = ((L2.wipe σ us).set u none).set i x
          rw [ih hu.2, List.set_comm _ _ hu.1]
      rw [key vs hi, List.set_set]
theorem wipe_wipe {σ : L2.St} : ∀ {vs : List Nat}, L2.wipe (L2.wipe σ vs) vs = L2.wipe σ vs := by
  have key : ∀ (us vs : List Nat), (∀ i ∈ us, i ∈ vs) → L2.wipe (L2.wipe σ us) vs = L2.wipe σ vs := fun us => by
    induction us with
    | nil => exact fun _ _ => rfl
    | cons u us ih =>
      intro vs h
      show L2.wipe ((L2.wipe σ us).set u none) vs = _
      rw [wipe_set (h u List.mem_cons_self)]
      exact ih vs fun i hi => h i (List.mem_cons_of_mem _ hi)
  exact fun {vs} => key vs vs fun _ h => h

/-! ### a comprehension's targets and tests -/
section
variable {d : D} {QS : Sl → Mem → Prop} {ds : List D} {vs : List Nat}
def GW (g : Gb) (c : Cz) (vs : List Nat) (tg : Expr) (d : D) (δ : Sl) (M : Mem) (QS : Sl → Mem → Prop) : Prop := ∀ X F0, Good g c X F0 → ∀ F σ H v, Ex F0 F → Sto g.K F M H → SlotsR g.K F δ σ → Rep g.K F d v → wG X tg v σ H fun σ' H' => L2.wipe σ' vs = L2.wipe σ vs ∧ PoN g F QS σ' H'
def GWs (g : Gb) (c : Cz) (vs : List Nat) (ts : List Expr) (ds : List D) (δ : Sl) (M : Mem) (QS : Sl → Mem → Prop) : Prop := ∀ X F0, Good g c X F0 → ∀ F σ H us, Ex F0 F → Sto g.K F M H → SlotsR g.K F δ σ → Reps g.K F ds us → wGs X ts us σ H fun σ' H' => L2.wipe σ' vs = L2.wipe σ vs ∧ PoN g F QS σ' H'
theorem gw_name {i : Nat} {x : Str} (hN : c.N[i]? = some x) (hx : locB c x = true) (hv : i ∈ vs) (q : QS (δ.set i (some d)) M) : GW g c vs (.Name x pos) d δ M QS := by
  intro X F0 G F σ H v eF st sl r
  exact wG_of (pg_name (i := i) (by rw [G.N]; exact G.nd) (by rw [G.N]; exact hN) (G.loc hx).1 (G.loc hx).2) ⟨wipe_set hv, F, M, _, Evl.Ex.refl F, st, sl.set r, q⟩
theorem gws_nil (q : QS δ M) : GWs g c vs [] [] δ M QS := fun X F0 G F σ H us eF st sl r => wGs_of pgs_nil ⟨r, rfl, F, M, δ, Evl.Ex.refl F, st, sl, q⟩
theorem gws_cons (h : GW g c vs a d δ M fun δ1 M1 => GWs g c vs es ds δ1 M1 QS) (hs : ∀ env, (assignEach (a :: es) env).map (·.2) = assign a env :: (assignEach es env).map (·.2) := by intro _; rfl) : GWs g c vs (a :: es) (d :: ds) δ M QS := by
  intro X F0 G F σ H us eF st sl r
  obtain ⟨v, us, rfl, r1, r2⟩ := r
  refine wGs_of (pgs_cons pg_wG pgs_wGs (hs X.env)) ⟨v, us, rfl, wG_mono (h X F0 G F σ H v eF st sl r1) fun σ1 H1 q => ?_⟩
  obtain ⟨w1, F1, M1, δ1, e1, st1, sl1, q⟩ := q
  exact wGs_mono (q X F0 G F1 σ1 H1 us (eF.trans e1) st1 sl1 (r2.mono e1)) fun _ _ q => ⟨q.1.trans w1, PoN.back e1 q.2⟩
theorem gw_tup {k n : Nat} (h : ∃ ds, d = .tup ds ∧ ds.length = n ∧ GWs g c vs es ds δ M QS) (hn : ∀ env, (assignEach es env).length = n := by intro _; rfl) (hst : ∀ env, (assignEach es env).findIdx? (·.1) = none := by intro _; rfl) : GW g c vs (.Tuple es k pos) d δ M QS := by
  intro X F0 G F σ H v eF st sl r
  obtain ⟨ds, rfl, h2, h3⟩ := h
  obtain ⟨p, us, rfl, hq, rv⟩ := r
  exact wG_of (pg_tup (n := n) G.calm pgs_wGs (hn X.env) (hst X.env)) ⟨p, us, rfl, by rw [G.K]; exact Evl.ex_t st.ex hq, by rw [rv.length, h2], h3 X F0 G F σ H us eF st sl rv⟩
end
def IFX (g : Gb) (c : Cz) (ifs : List Expr) (δ : Sl) (M : Mem) (R : Bool → Mem → Prop) : Prop := match ifs with
  | [] => R true M
  | [t] => TX g c t δ M R
  | _ => False
def wTs (X : Cx) (ifs : List Expr) : TT := match ifs with
  | [] => tYes
  | [t] => wT X t
  | _ => fun _ _ _ => False
theorem pts_wTs {X : Cx} : ∀ {ifs : List Expr}, PTs X ifs (wTs X ifs)
  | [] => pts_nil
  | [t] => pts_one pt_wT
  | _ :: _ :: _ => ⟨fun _ _ _ _ _ _ h => h.elim⟩

/-! ### the reading of a comprehension -/
section
variable {tg iter elt : Expr} {ifs : List Expr} {scope : Scope} {own : List (Str × Nat)}
def uG (X : Cx) (scope : Scope) (tg : Expr) : TG := fun v σ H Q => ∀ (s : Shared) (H0 : Hp) (C : Addr) (cl : List (Str × Addr)) (fp : List Addr), wG (X.blk s H0 scope (compEnvC scope cl C X.env) fp) tg v σ H Q
def uT (X : Cx) (scope : Scope) (ifs : List Expr) : TT := fun σ H Q => ∀ (s : Shared) (H0 : Hp) (C : Addr) (cl : List (Str × Addr)) (fp : List Addr), wTs (X.blk s H0 scope (compEnvC scope cl C X.env) fp) ifs σ H Q
def uE (X : Cx) (scope : Scope) (e : Expr) : TE := fun σ H Q => ∀ (s : Shared) (H0 : Hp) (C : Addr) (cl : List (Str × Addr)) (fp : List Addr), wE (X.blk s H0 scope (compEnvC scope cl C X.env) fp) e σ H Q
/-- what a comprehension asks: Dl the new list, which may change meanwhile -/
def LcD (g : Gb) (c : Cz) (δ : Sl) (tg elt : Expr) (ifs : List Expr) (scope : Scope) (vs : List Nat) (Q : D → Mem → Prop) (ds : List D) (stay : Mem → Prop) (M1 : Mem) : Prop :=
  ∀ Dl, M1 Dl = none → ∃ Pv : Nat → List D → Mem → Prop, Pv 0 [] (mup M1 Dl (.lst [])) ∧ (∀ i acc M', Pv i acc M' → stay M' ∧ M' Dl = some (.lst acc)) ∧
    (∀ i d acc M', ds[i]? = some d → Pv i acc M' → GW g (c.blk scope) vs tg d (wipeD δ vs) M' fun δ2 M2 => IFX g (c.blk scope) ifs δ2 M2 fun k M3 =>
      cond k (EX g (c.blk scope) elt δ2 M3 fun y M4 => M4 Dl = some (.lst acc) ∧ acc.length < sizeLine ∧ Pv (i + 1) (acc ++ [y]) (mup M4 Dl (.lst (acc ++ [y])))) (Pv (i + 1) acc M3)) ∧
    (∀ acc M', Pv ds.length acc M' → Q (.ref Dl) M')
theorem lc_read {X : Cx} {F0 F H : Hp} {σ : L2.St} (hk : scope.kind = .function) (G : Good g c X F0) (eF : Ex F0 F) (st : Sto g.K F M H) (sl : SlotsR g.K F δ σ) (h : IX g c tg iter δ M (LcD g c δ tg elt ifs scope (own.map (·.2)) Q)) :
    tLc (wI X tg iter) (uG X scope tg) (uT X scope ifs) (uE X scope elt) (own.map (·.2)) σ H (PoE g F Q) := by
  intro pins s I
  refine thn (h X F0 G F σ H eF st sl pins s I) fun v s1 h1 => thn h1 fun itv s2 h2 => ?_
  obtain ⟨it, fp, tn, J, H1, ev, I1, T, t0, f0, F1, M1, ds, stay, e1, st1, wk, sty, hlc⟩ := h2
  refine ⟨it, fp, tn, J, H1, ev, I1, T, t0, f0, fun Dl hD => ?_⟩
  obtain ⟨Pv, p0, pstay, pturn, pend⟩ := hlc Dl (st1.free hD).2
  refine ⟨fun i m H' => m = ds.length - i ∧ i ≤ ds.length ∧ ∃ F' M' acc, Ex F1 F' ∧ Sto g.K F' M' H' ∧ Pv i acc M', ⟨ds.length, by simp, Nat.zero_le _, F1, _, [], Evl.Ex.refl F1, st1.newL hD .nil, p0⟩, ?_⟩
  rintro i m H' ⟨rfl, hi, F', M', acc, e', st', p⟩
  by_cases hlt : i < ds.length
  · refine .inr ⟨wk.go i F' M' H' e' st' (pstay i acc M' p).1 hlt, fun H2 => ∃ F2 M2 acc2, Ex F1 F2 ∧ Sto g.K F2 M2 H2 ∧ Pv (i + 1) acc2 M2, fun H2 ⟨F2, M2, acc2, a1, a2, a3⟩ => ⟨ds.length - (i + 1), by omega, rfl, hlt, F2, M2, acc2, a1, a2, a3⟩, fun x H2 y => ?_⟩
    obtain ⟨F2, d, e2, st2, hd, r⟩ := wk.yld i F' M' H' x H2 e' st' (pstay i acc M' p).1 hlt y
    have q := pturn i d acc M' hd p
    have eF2 : Ex F0 F2 := ((eF.trans e1).trans e').trans e2
    have slw : SlotsR g.K F2 (wipeD δ (own.map (·.2))) (L2.wipe σ (own.map (·.2))) := (sl.mono ((e1.trans e').trans e2)).wipe _
    intro sB HB CB clB fpB
    refine wG_mono (q _ F0 (G.blk hk sB HB CB clB fpB) F2 _ H2 x eF2 st2 slw r) fun σ3 H3 q3 => ?_
    obtain ⟨w3, F3, M3, δ3, e3, st3, sl3, q3⟩ := q3
    have eF3 := eF2.trans e3
    refine ⟨by rw [w3, wipe_wipe], ?_⟩
    have fin : ∀ (k : Bool) (F4 : Hp) (M4 : Mem) (H4 : Hp), Ex F3 F4 → Sto g.K F4 M4 H4 → cond k (EX g (c.blk scope) elt δ3 M4 fun y M5 => M5 Dl = some (.lst acc) ∧ acc.length < sizeLine ∧ Pv (i + 1) (acc ++ [y]) (mup M5 Dl (.lst (acc ++ [y])))) (Pv (i + 1) acc M4) →
        if k = true then uE X scope elt σ3 H4 fun y H5 => ∃ acc, H5 Dl = some (.lst acc) ∧ acc.length < sizeLine ∧ (fun H2 => ∃ F2 M2 acc2, Ex F1 F2 ∧ Sto g.K F2 M2 H2 ∧ Pv (i + 1) acc2 M2) (upd H5 Dl (.lst (acc ++ [y]))) else ∃ F2 M2 acc2, Ex F1 F2 ∧ Sto g.K F2 M2 H4 ∧ Pv (i + 1) acc2 M2 := by
      intro k F4 M4 H4 e4 st4 q4
      have ee : Ex F1 F4 := (e'.trans e2).trans (e3.trans e4)
      cases k with
      | true =>
        rw [if_pos rfl]
        intro sC HC CC clC fpC
        refine wE_mono ((show EX g (c.blk scope) elt δ3 M4 _ from q4) _ F0 (G.blk hk sC HC CC clC fpC) F4 σ3 H4 (eF3.trans e4) st4 (sl3.mono e4)) fun y H5 q5 => ?_
        obtain ⟨F5, M5, dy, e5, st5, ry, hm, hz, p5⟩ := q5
        obtain ⟨hf, us, hu, ru⟩ := st5.mem Dl _ hm
        exact ⟨us, hu, by rw [ru.length]; exact hz, F5, _, _, ee.trans e5, st5.setL hm (ru.app (.cons ry .nil)), p5⟩
      | false =>
        rw [if_neg Bool.false_ne_true]
        exact ⟨F4, M4, acc, ee, st4, q4⟩
    cases ifs with
    | nil =>
      intro sC HC CC clC fpC
      exact fin true F3 M3 H3 (Evl.Ex.refl F3) st3 q3
    | cons t r =>
      cases r with
      | cons t2 r2 => exact absurd q3 (fun z => z)
      | nil =>
        intro sC HC CC clC fpC
        refine wT_mono ((show TX g (c.blk scope) t δ3 M3 _ from q3) _ F0 (G.blk hk sC HC CC clC fpC) F3 σ3 H3 eF3 st3 sl3) fun k H4 q4 => ?_
        obtain ⟨F4, M4, e4, st4, q4⟩ := q4
        exact fin k F4 M4 H4 e4 st4 q4
  · have ei : i = ds.length := by omega
    subst ei
    exact .inl ⟨wk.stop F' M' H' e' st' (pstay _ acc M' p).1, F', M', .ref Dl, e1.trans e', st', rfl, pend acc M' p⟩
theorem ex_lc (hb : blkC c.N c.sc scope own = true) (h : IX g c tg iter δ M (LcD g c δ tg elt ifs scope (own.map (·.2)) Q)) (hs : ∀ env x, foldedSetIterable iter env x = pure x := by intro _ _; rfl) : EX g c (.ListComp elt [⟨tg, iter, ifs, 0⟩] scope pos) δ M Q := by
  intro X F0 G F σ H eF st sl
  have ok := blkOk_by hb
  refine wE_of (pe_lc (own := own) (g := uG X scope tg) (tt := uT X scope ifs) (te := uE X scope elt) G.calm (by rw [G.N]; exact G.nd) pi_wI (by rw [G.N, G.sc]; exact ok) (fun s H C cl fp => ⟨fun pins s' σ H v u Q I r h => h s _ C cl fp pins s' u I r⟩) (fun s H C cl fp => ⟨fun pins s' σ H Q I h => pts_wTs.run pins s' σ H Q I (h s _ C cl fp)⟩)
    (fun s H C cl fp => ⟨fun pins s' σ H Q I h => h s _ C cl fp pins s' I⟩) (hs X.env)) (lc_read ok.kind G eF st sl h)
theorem PoE.frz {F H : Hp} {v : V} (h : PoE g F (fun d M1 => FrzD M1 Q d) v H) : PoE g F Q v H := by
  obtain ⟨F1, M1, d, e1, st1, r, p, rfl, q⟩ := h
  have ev : v = .ref p := r
  rw [ev]
  rcases q with ⟨ds, hm, q⟩ | ⟨C, ns, ds, hm, q⟩
  · obtain ⟨F2, e2, st2, r2⟩ := st1.freezeL hm
    exact ⟨F2, _, _, e1.trans e2, st2, r2, q⟩
  · obtain ⟨F2, e2, st2, r2⟩ := st1.freezeI hm
    exact ⟨F2, _, _, e1.trans e2, st2, r2, q⟩
/-- name = [..] on one line -/
theorem sx_setLc {i : Nat} {y : Str} {py spos : Pos} (hb : blkC c.N c.sc scope own = true) (hN : c.N[i]? = some y) (hy : c.sc.names.lookup y = some .local) (hl : (py.line == pos.line) = true) (ha : (scope.names.any fun (n, k) => n == y && (k == .local || k == .cell)) = false)
    (h : IX g c tg iter δ M (LcD g c δ tg elt ifs scope (own.map (·.2)) fun d M1 => O.nx (δ.set i (some d)) M1 ∨ FrzD M1 (fun d M2 => O.nx (δ.set i (some d)) M2) d)) (hs : ∀ env x, foldedSetIterable iter env x = pure x := by intro _ _; rfl) :
    SX g c (.Assign [.Name y py] (.ListComp elt [⟨tg, iter, ifs, 0⟩] scope pos) spos) δ M O := by
  intro X F0 G F σ H eF st sl
  have ok := blkOk_by hb
  have hyX : X.env.scope.names.lookup y = some .local := by
    rw [G.sc]
    exact hy
  refine wS_of (ps_setLc (i := i) (own := own) (g := uG X scope tg) (tt := uT X scope ifs) (te := uE X scope elt) G.calm (by rw [G.N]; exact G.nd) (by rw [G.N]; exact hN) hyX (sw_true (by rw [G.sc]; exact G.knd) hyX hl ha) pi_wI (by rw [G.N, G.sc]; exact ok)
    (fun s H C cl fp => ⟨fun pins s' σ H v u Q I r h => h s _ C cl fp pins s' u I r⟩) (fun s H C cl fp => ⟨fun pins s' σ H Q I h => pts_wTs.run pins s' σ H Q I (h s _ C cl fp)⟩)
    (fun s H C cl fp => ⟨fun pins s' σ H Q I h => h s _ C cl fp pins s' I⟩) (hs X.env)) ?_
  have q := lc_read (own := own) ok.kind G eF st sl h
  have mono : ∀ (Q1 Q2 : VK), (∀ v H', Q1 v H' → Q2 v H') → tLc (wI X tg iter) (uG X scope tg) (uT X scope ifs) (uE X scope elt) (own.map (·.2)) σ H Q1 → tLc (wI X tg iter) (uG X scope tg) (uT X scope ifs) (uE X scope elt) (own.map (·.2)) σ H Q2 := by
    intro Q1 Q2 k q pins s I
    refine thn (q pins s I) fun v s1 h1 => thn h1 fun itv s2 h2 => ?_
    obtain ⟨it, fp, tn, J, H1, ev, I1, T, t0, f0, hq⟩ := h2
    refine ⟨it, fp, tn, J, H1, ev, I1, T, t0, f0, fun Dl hD => ?_⟩
    obtain ⟨W, w0, turn⟩ := hq Dl hD
    exact ⟨W, w0, fun i m H w => (turn i m H w).imp (fun ⟨a, b⟩ => ⟨a, k _ _ b⟩) fun z => z⟩
  refine mono _ _ (fun v H' qq => ?_) q
  obtain ⟨F1, M1, d, e1, st1, r, q1⟩ := qq
  rcases q1 with q1 | q1
  · exact ⟨F1, M1, _, e1, st1, (sl.mono e1).set r, q1⟩
  · obtain ⟨F2, M2, d2, e2, st2, r2, q2⟩ := PoE.frz ⟨F1, M1, d, e1, st1, r, q1⟩
    exact ⟨F2, M2, _, e2, st2, (sl.mono e2).set r2, q2⟩
/-- a comprehension that changes nothing: os what comes of each item -/
def OutD (A : D → Prop) : Bool → Option D → Prop
  | true, some y => A y
  | false, none => True
  | _, _ => False
def OneD (g : Gb) (c : Cz) (δ : Sl) (tg elt : Expr) (ifs : List Expr) (scope : Scope) (vs : List Nat) (M1 : Mem) (d : D) (o : Option D) : Prop := ∀ M', MSub M1 M' →
  GW g (c.blk scope) vs tg d (wipeD δ vs) M' fun δ2 M2 => M2 = M' ∧ IFX g (c.blk scope) ifs δ2 M' fun k M3 => M3 = M' ∧ OutD (fun y => EX g (c.blk scope) elt δ2 M' fun z M4 => z = y ∧ M4 = M') k o
def PurD (g : Gb) (c : Cz) (δ : Sl) (tg elt : Expr) (ifs : List Expr) (scope : Scope) (vs : List Nat) (Q : D → Mem → Prop) (ds : List D) (stay : Mem → Prop) (M1 : Mem) : Prop :=
  ds.length ≤ 100000 ∧ (∀ M', MSub M1 M' → stay M') ∧ ∃ os, Paired (OneD g c δ tg elt ifs scope vs M1) ds os ∧ Q (.lst (os.filterMap id)) M1
theorem Paired.get {α β : Type} {P : α → β → Prop} : ∀ {xs : List α} {ys : List β} {i : Nat} {x : α}, Paired P xs ys → xs[i]? = some x → ∃ y, ys[i]? = some y ∧ P x y
  | _, _, _, _, .nil, h => by simp at h
  | _, _, 0, _, .cons r _, h => by
    simp at h
    subst h
    exact ⟨_, rfl, r⟩
  | _, _, i + 1, x, .cons _ t, h => by
    obtain ⟨y, h1, h2⟩ := Paired.get (i := i) (x := x) t (by simpa using h)
    exact ⟨y, by simpa using h1, h2⟩
theorem pur_lc {vs : List Nat} {ds : List D} {stay : Mem → Prop} (h : PurD g c δ tg elt ifs scope vs Q ds stay M) : LcD g c δ tg elt ifs scope vs (fun d M1 => FrzD M1 Q d) ds stay M := by
  obtain ⟨hz, hst, os, hp, q⟩ := h
  have hl : ds.length = os.length := Paired.length hp
  intro Dl hD
  refine ⟨fun i acc M' => i ≤ ds.length ∧ acc = (os.take i).filterMap id ∧ M' = mup M Dl (.lst acc), ⟨Nat.zero_le _, rfl, rfl⟩, fun i acc M' ⟨_, h1, h2⟩ => ⟨?_, ?_⟩, fun i d acc M' hd ⟨h0, h1, h2⟩ => ?_, fun acc M' ⟨_, h1, h2⟩ => ?_⟩
  · rw [h2]
    exact hst _ (MSub.new hD)
  · rw [h2]
    exact mup_same
  · obtain ⟨o, ho, hone⟩ := Paired.get hp hd
    have hlt : i < ds.length := (List.getElem?_eq_some_iff.mp hd).1
    have tk : os.take (i + 1) = os.take i ++ [o] := by rw [List.take_add_one, ho]; rfl
    have hal : acc.length ≤ i := by
      rw [h1]
      exact Nat.le_trans (List.length_filterMap_le _ _) (by rw [List.length_take]; exact Nat.min_le_left _ _)
    intro X F0 G F σ H v eF st sl r
    refine wG_mono (hone M' (by rw [h2]; exact MSub.new hD) X F0 G F σ H v eF st sl r) fun σ2 H2 q2 => ?_
    refine ⟨q2.1, PoN.imp (fun δ2 M2 q3 => ?_) q2.2⟩
    obtain ⟨rfl, q3⟩ := q3
    have fin : ∀ (k : Bool), OutD (fun y => EX g (c.blk scope) elt δ2 M2 fun z M4 => z = y ∧ M4 = M2) k o → cond k (EX g (c.blk scope) elt δ2 M2 fun y M4 => M4 Dl = some (.lst acc) ∧ acc.length < sizeLine ∧ (i + 1 ≤ ds.length ∧ acc ++ [y] = (os.take (i + 1)).filterMap id ∧ mup M4 Dl (.lst (acc ++ [y])) = mup M Dl (.lst (acc ++ [y]))))
          (i + 1 ≤ ds.length ∧ acc = (os.take (i + 1)).filterMap id ∧ M2 = mup M Dl (.lst acc)) := fun k hk => by
      cases k with
      | true =>
        cases o with
        | none => exact hk.elim
        | some y =>
          refine EX.imp (show EX g (c.blk scope) elt δ2 M2 _ from hk) fun z M4 ⟨h3, h4⟩ => ?_
          subst h3 h4
          refine ⟨by rw [h2]; exact mup_same, Evl.sz_lt (by omega), hlt, ?_, by rw [h2, mup_mup]⟩
          rw [tk, List.filterMap_append, h1]
          rfl
      | false =>
        cases o with
        | none =>
          refine ⟨hlt, ?_, h2⟩
          rw [tk, List.filterMap_append, h1]
          show _ = _ ++ []
          rw [List.append_nil]
        | some y => exact hk.elim
    cases ifs with
    | nil =>
      obtain ⟨_, q3⟩ := q3
      exact fin true q3
    | cons t r =>
      cases r with
      | cons t2 r2 => exact absurd q3 (fun z => z)
      | nil =>
        refine TX.imp (show TX g (c.blk scope) t δ2 M2 _ from q3) fun k M3 hh => ?_
        rw [hh.1]
        exact fin k hh.2
  · rw [hl, List.take_length] at h1
    refine ⟨Dl, rfl, .inl ⟨acc, by rw [h2]; exact mup_same, ?_⟩⟩
    rw [h2, mdel_mup hD, h1]
    exact q
theorem ex_lcP (hb : blkC c.N c.sc scope own = true) (h : IX g c tg iter δ M (PurD g c δ tg elt ifs scope (own.map (·.2)) Q)) (hs : ∀ env x, foldedSetIterable iter env x = pure x := by intro _ _; rfl) : EX g c (.ListComp elt [⟨tg, iter, ifs, 0⟩] scope pos) δ M Q :=
  EX.frz (ex_lc (own := own) hb (fun X F0 G F σ H eF st sl pins s I => thn (h X F0 G F σ H eF st sl pins s I) fun v s1 h1 => thn h1 fun itv s2 ⟨it, fp, tn, J, H1, ev, I1, T, t0, f0, F1, M1, ds, stay, e1, st1, wk, sty, q⟩ =>
    ⟨it, fp, tn, J, H1, ev, I1, T, t0, f0, F1, M1, ds, stay, e1, st1, wk, sty, pur_lc q⟩) hs)
theorem sx_setLcP {i : Nat} {y : Str} {py spos : Pos} (hb : blkC c.N c.sc scope own = true) (hN : c.N[i]? = some y) (hy : c.sc.names.lookup y = some .local) (hl : (py.line == pos.line) = true) (ha : (scope.names.any fun (n, k) => n == y && (k == .local || k == .cell)) = false)
    (h : IX g c tg iter δ M (PurD g c δ tg elt ifs scope (own.map (·.2)) fun d M1 => O.nx (δ.set i (some d)) M1)) (hs : ∀ env x, foldedSetIterable iter env x = pure x := by intro _ _; rfl) :
    SX g c (.Assign [.Name y py] (.ListComp elt [⟨tg, iter, ifs, 0⟩] scope pos) spos) δ M O :=
  sx_setLc (own := own) hb hN hy hl ha (fun X F0 G F σ H eF st sl pins s I => thn (h X F0 G F σ H eF st sl pins s I) fun v s1 h1 => thn h1 fun itv s2 ⟨it, fp, tn, J, H1, ev, I1, T, t0, f0, F1, M1, ds, stay, e1, st1, wk, sty, q⟩ =>
    ⟨it, fp, tn, J, H1, ev, I1, T, t0, f0, F1, M1, ds, stay, e1, st1, wk, sty, fun Dl hD => by
      obtain ⟨Pv, p0, p1, p2, p3⟩ := pur_lc q Dl hD
      exact ⟨Pv, p0, p1, p2, fun acc M' p => .inr (p3 acc M' p)⟩⟩) hs
end
end DL

set_option Elab.async false
set_option linter.all false
set_option maxRecDepth 100000
set_option maxHeartbeats 1000000
/-! # The D-layer, part 8: built-ins, methods of texts and lists -/
namespace DL
open PySem PySem.Spec PyProof.Rows L2
open Evl (Ex)
variable {g : Gb} {c : Cz} {δ : Sl} {M : Mem} {Q : D → Mem → Prop} {R : Bool → Mem → Prop} {O : Od} {pos : Pos} {a b e : Expr} {rest es : List Expr} {st : Stmt} {sts : List Stmt} {x : Str} {p apos : Pos}

theorem ex_callB {id : String} {r : List V → Hp → VK → Prop} (hc : ∀ X : Cx, X.K = g.K → X.calm = true → CallR X (.builtin id) r) (hg : gloB c.sc x = true) (hm : g.mg x = none) (hv : bootBuiltins x = some (.builtin id)) (h : AX g c (a :: es) δ M fun ds M1 => DA g r ds M1 Q)
    (hn : x ≠ "__name__" := by decide) (hdb : (x == ("__debug__" : Str)) = false := by decide) (he : ∀ env, starEach (a :: es) env = (false, eval a env) :: starEach es env := by intro _; rfl) (hpl : ∀ env, (backTo pos (starEach es env)).any (·.1) = false := by intro _; rfl) :
    EX g c (.Call (.Name x p) (a :: es) [] pos) δ M Q := by
  intro X F0 G F σ H eF st sl
  refine wE_of (pe_callB (hc X G.K G.calm) (G.gl hg) (by rw [G.mg]; exact hm) hv pa_wA hn hdb (he X.env) (hpl X.env)) (wA_mono (h X F0 G F σ H eF st sl) fun vs H1 q => ?_)
  obtain ⟨F1, M1, ds, e1, st1, r1, q⟩ := q
  exact q F F1 H1 vs e1 st1 r1
theorem ex_callTy {T : String} {r : List V → Hp → VK → Prop} (hc : ∀ X : Cx, X.K = g.K → X.calm = true → CallR X (.type T) r) (hg : gloB c.sc x = true) (hm : g.mg x = none) (hv : bootBuiltins x = some (.type T)) (h : AX g c (a :: es) δ M fun ds M1 => DA g r ds M1 Q)
    (hn : x ≠ "__name__" := by decide) (hdb : (x == ("__debug__" : Str)) = false := by decide) (he : ∀ env, starEach (a :: es) env = (false, eval a env) :: starEach es env := by intro _; rfl) (hpl : ∀ env, (backTo pos (starEach es env)).any (·.1) = false := by intro _; rfl) :
    EX g c (.Call (.Name x p) (a :: es) [] pos) δ M Q := by
  intro X F0 G F σ H eF st sl
  refine wE_of (pe_callTy (hc X G.K G.calm) (G.gl hg) (by rw [G.mg]; exact hm) hv pa_wA hn hdb (he X.env) (hpl X.env)) (wA_mono (h X F0 G F σ H eF st sl) fun vs H1 q => ?_)
  obtain ⟨F1, M1, ds, e1, st1, r1, q⟩ := q
  exact q F F1 H1 vs e1 st1 r1
/-- one argument, two arguments -/
theorem ax1 {QA : List D → Mem → Prop} (h : EX g c a δ M fun d M1 => QA [d] M1) (hs : ∀ env, starEach [a] env = (false, eval a env) :: starEach [] env := by intro _; rfl) : AX g c [a] δ M QA := ax_cons (EX.imp h fun _ _ q => ax_nil q) hs
theorem ax2 {QA : List D → Mem → Prop} (h : EX g c a δ M fun d M1 => EX g c b δ M1 fun d' M2 => QA [d, d'] M2) (hs : ∀ env, starEach [a, b] env = (false, eval a env) :: starEach [b] env := by intro _; rfl) (hs2 : ∀ env, starEach [b] env = (false, eval b env) :: starEach [] env := by intro _; rfl) : AX g c [a, b] δ M QA :=
  ax_cons (EX.imp h fun _ _ q => ax_cons (EX.imp q fun _ _ q => ax_nil q) hs2) hs
theorem da1 {r : List V → Hp → VK → Prop} {d : D} (h : ∀ Fa F H v, Ex Fa F → Sto g.K F M H → Rep g.K F d v → r [v] H (PoE g Fa Q)) : DA g r [d] M Q := fun Fa F H vs e st rs => by
  obtain ⟨v, us, rfl, h1, h2⟩ := rs
  obtain rfl : us = [] := h2
  exact h Fa F H v e st h1
/-! len, abs, int, str -/
def LenD (x : D) (M : Mem) (Q : D → Mem → Prop) : Prop := match x with
  | .str z => z.length ≤ sizeLine ∧ Q (.int z.length) M
  | x => ∃ ds, SeqD M x ds ∧ Q (.int ds.length) M
theorem ex_len (hg : gloB c.sc "len" = true) (hm : g.mg "len" = none) (h : EX g c a δ M fun x M1 => LenD x M1 Q) (he : ∀ env, starEach [a] env = (false, eval a env) :: starEach [] env := by intro _; rfl) : EX g c (.Call (.Name "len" p) [a] [] pos) δ M Q :=
  ex_callB (r := fun xs H Q => (∃ p ys, xs = [.ref p] ∧ (SqL g.K H p ys ∨ SqT g.K H p ys) ∧ Q (.int ys.length) H) ∨ (∃ z, xs = [.str z] ∧ z.length ≤ sizeLine ∧ Q (.int z.length) H)) (fun X hK _ => hK ▸ CallR.or call_len_seq call_len_str) hg hm PySem.boot_len
    (ax1 (EX.imp h fun d M1 k => da1 fun Fa F H v e st r => by
      clear h
      unfold LenD at k
      split at k
      · rename_i z
        exact .inr ⟨z, by rw [show v = .str z from r], k.1, .same e st k.2 rfl⟩
      · obtain ⟨ds, h1, q⟩ := k
        obtain ⟨p, vs, rfl, hq, rv⟩ := h1.rep st r
        exact .inl ⟨p, vs, rfl, hq, by rw [rv.length]; exact .same e st q rfl⟩) he) (by decide) (by decide) he
theorem ex_abs (hg : gloB c.sc "abs" = true) (hm : g.mg "abs" = none) (h : EX g c a δ M fun x M1 => ∃ i, x = .int i ∧ Q (.int (if i < 0 then -i else i)) M1) (he : ∀ env, starEach [a] env = (false, eval a env) :: starEach [] env := by intro _; rfl) : EX g c (.Call (.Name "abs" p) [a] [] pos) δ M Q :=
  ex_callB (r := fun xs H Q => ∃ i, xs = [.int i] ∧ Q (.int (if i < 0 then -i else i)) H) (fun X hK _ => call_abs) hg hm (by decide +kernel)
    (ax1 (EX.imp h fun d M1 ⟨i, hd, q⟩ => da1 fun Fa F H v e st r => ⟨i, by rw [hd] at r; rw [show v = .int i from r], .same e st q rfl⟩) he) (by decide) (by decide) he
def IntcD (x : D) (M : Mem) (Q : D → Mem → Prop) : Prop := match x with
  | .int i => Q (.int i) M
  | .str z => ∃ n, PySem.intText? z = some n ∧ z.length ≤ 640 ∧ Q (.int n) M
  | _ => False
theorem ex_intc (hg : gloB c.sc "int" = true) (hm : g.mg "int" = none) (h : EX g c a δ M fun x M1 => IntcD x M1 Q) (he : ∀ env, starEach [a] env = (false, eval a env) :: starEach [] env := by intro _; rfl) : EX g c (.Call (.Name "int" p) [a] [] pos) δ M Q :=
  ex_callTy (r := fun xs H Q => ((∃ i, xs = [.int i] ∧ Q (.int i) H) ∨ ∃ k, xs = [.bl k] ∧ Q (.int (if k then 1 else 0)) H) ∨ (∃ a n, xs = [.str a] ∧ PySem.intText? a = some n ∧ a.length ≤ 640 ∧ Q (.int n) H)) (fun X hK _ => CallR.or call_int1 call_int_str) hg hm (by decide +kernel)
    (ax1 (EX.imp h fun d M1 k => da1 fun Fa F H v e st r => by
      clear h
      unfold IntcD at k
      split at k
      · rename_i i
        exact .inl (.inl ⟨i, by rw [show v = .int i from r], .same e st k rfl⟩)
      · rename_i z
        obtain ⟨n, h1, h2, q⟩ := k
        exact .inr ⟨z, n, by rw [show v = .str z from r], h1, h2, .same e st q rfl⟩
      · exact k.elim) he) (by decide) (by decide) he
theorem ex_strc (hg : gloB c.sc "str" = true) (hm : g.mg "str" = none) (h : EX g c a δ M fun x M1 => ∃ i, x = .int i ∧ i.natAbs.log2 < 1920 ∧ Q (.str (toString i)) M1) (he : ∀ env, starEach [a] env = (false, eval a env) :: starEach [] env := by intro _; rfl) : EX g c (.Call (.Name "str" p) [a] [] pos) δ M Q :=
  ex_callTy (r := fun xs H Q => ∃ i, xs = [.int i] ∧ i.natAbs.log2 < 1920 ∧ Q (.str (toString i)) H) (fun X hK _ => call_str_int) hg hm (by decide +kernel)
    (ax1 (EX.imp h fun d M1 ⟨i, hd, hi, q⟩ => da1 fun Fa F H v e st r => ⟨i, by rw [hd] at r; rw [show v = .int i from r], hi, .same e st q rfl⟩) he) (by decide) (by decide) he
/-! sum, all, any -/
theorem reps_ints {F : Hp} : ∀ {ns : List Int} {vs : List V}, Reps g.K F (ns.map D.int) vs → vs = ns.map V.int
  | [], _, h => h
  | n :: ns, _, ⟨v, us, h1, h2, h3⟩ => by rw [h1, show v = .int n from h2, reps_ints h3]; rfl
theorem reps_bls {F : Hp} : ∀ {ns : List Bool} {vs : List V}, Reps g.K F (ns.map D.bl) vs → vs = ns.map V.bl
  | [], _, h => h
  | n :: ns, _, ⟨v, us, h1, h2, h3⟩ => by rw [h1, show v = .bl n from h2, reps_bls h3]; rfl
theorem reps_strs {F : Hp} : ∀ {ns : List Str} {vs : List V}, Reps g.K F (ns.map D.str) vs → vs = ns.map V.str
  | [], _, h => h
  | n :: ns, _, ⟨v, us, h1, h2, h3⟩ => by rw [h1, show v = .str n from h2, reps_strs h3]; rfl
theorem ex_sum (hg : gloB c.sc "sum" = true) (hm : g.mg "sum" = none) (h : EX g c a δ M fun x M1 => ∃ ns : List Int, LstD M1 x (ns.map D.int) ∧ Q (.int ns.sum) M1) (he : ∀ env, starEach [a] env = (false, eval a env) :: starEach [] env := by intro _; rfl) : EX g c (.Call (.Name "sum" p) [a] [] pos) δ M Q :=
  ex_callB (r := rSum g.K) (fun X hK hc => hK ▸ cr_sum hc) hg hm (by decide +kernel)
    (ax1 (EX.imp h fun d M1 ⟨ns, hd, q⟩ => da1 fun Fa F H v e st r => by
      obtain ⟨p, vs, rfl, hq, rv⟩ := hd.rep st r
      rw [reps_ints rv] at hq
      exact ⟨p, ns, rfl, SqL.of hq, .same e st q rfl⟩) he) (by decide) (by decide) he
theorem ex_all (hg : gloB c.sc "all" = true) (hm : g.mg "all" = none) (h : EX g c a δ M fun x M1 => ∃ ns : List Bool, LstD M1 x (ns.map D.bl) ∧ Q (.bl (ns.all id)) M1) (he : ∀ env, starEach [a] env = (false, eval a env) :: starEach [] env := by intro _; rfl) : EX g c (.Call (.Name "all" p) [a] [] pos) δ M Q :=
  ex_callB (r := rAll g.K) (fun X hK hc => hK ▸ cr_all hc) hg hm (by decide +kernel)
    (ax1 (EX.imp h fun d M1 ⟨ns, hd, q⟩ => da1 fun Fa F H v e st r => by
      obtain ⟨p, vs, rfl, hq, rv⟩ := hd.rep st r
      rw [reps_bls rv] at hq
      exact ⟨p, ns, rfl, SqL.of hq, .same e st q rfl⟩) he) (by decide) (by decide) he
/-- any of a list of ints -/
theorem truth_ints {prog : Program} {w : World} {A : Around} {ns : List Int} {its : List Value} (r : IntsAre its ns) : TruthOf prog w A (fun i v => its.toArray[i]? = some v) (fun i => (ns.map (· != 0)).getD i false) := fun i v s Q E hv hq => by
  have hv' : its[i]? = some v := by simpa using hv
  have hl := r.length
  have hi : i < its.length := (List.getElem?_eq_some_iff.mp hv').1
  obtain ⟨t, ht⟩ := r.get i _ (List.getElem?_eq_getElem (show i < ns.length by omega))
  rw [hv'] at ht
  cases ht
  have hg : (ns.map (· != 0)).getD i false = (ns[i]'(by omega) != 0) := by
    rw [List.getD_eq_getElem?_getD, List.getElem?_map, List.getElem?_eq_getElem (show i < ns.length by omega)] <;> rfl
  have hq' : Q ((ns.map (· != 0)).getD i false) s := hq
  rw [hg] at hq'
  exact PyProof.Rows.truthy_int hq'
def rAnyI (K : PySem.W.Frag) : List V → Hp → VK → Prop := fun vs H Q => ∃ (a : Addr) (ns : List Int), vs = [V.ref a] ∧ SqL K H a (ns.map V.int) ∧ Q (.bl (ns.any (· != 0))) H
theorem cr_anyI {X : Cx} (hc : X.calm = true) : CallR X (.builtin "any") (rAnyI X.K) := by
  intro pins s σ H vs us Q I r h
  obtain ⟨l, ns, rfl, hs, q⟩ := h
  obtain ⟨its, rv, hl, _⟩ := I.list hs
  rw [Vals.ref1 r]
  refine call_any_walk (iter_any hl.isList fun s₂ e2 st hne => ?_)
  subst e2
  refine ⟨_, _, _, _, _, _, _, rfl, Walks.list (A := X.A.in1) (I.ok.hd hc) _ l hne its.toArray, st, truth_ints rv.ints, fun h' tk hk => ⟨.bl _, H, I.kept fun b o eo => hk b o (fun hm => ?_) (Heap.get?_push_of_some _ eo), ?_, q⟩⟩
  · rcases List.mem_cons.mp hm with e1 | e1
    · exact absurd (e1 ▸ Heap.lt_size eo) (Nat.lt_irrefl _)
    · cases e1
  · have hz := rv.ints.length
    have e3 : its.toArray.size = (ns.map (· != 0)).length := by rw [List.size_toArray, List.length_map, hz]
    show Value.bool _ = Value.bool _
    rw [e3, L2.any_range, List.any_map]
    rfl
def AnyD (x : D) (M : Mem) (Q : D → Mem → Prop) : Prop := (∃ ns : List Bool, LstD M x (ns.map D.bl) ∧ Q (.bl (ns.any id)) M) ∨ ∃ ns : List Int, LstD M x (ns.map D.int) ∧ Q (.bl (ns.any (· != 0))) M
theorem ex_any (hg : gloB c.sc "any" = true) (hm : g.mg "any" = none) (h : EX g c a δ M fun x M1 => AnyD x M1 Q) (he : ∀ env, starEach [a] env = (false, eval a env) :: starEach [] env := by intro _; rfl) : EX g c (.Call (.Name "any" p) [a] [] pos) δ M Q :=
  ex_callB (r := fun xs H Q => rAny g.K xs H Q ∨ rAnyI g.K xs H Q) (fun X hK hc => hK ▸ CallR.or (cr_any hc) (cr_anyI hc)) hg hm (by decide +kernel)
    (ax1 (EX.imp h fun d M1 k => da1 fun Fa F H v e st r => by
      rcases k with ⟨ns, hd, q⟩ | ⟨ns, hd, q⟩
      · obtain ⟨p, vs, rfl, hq, rv⟩ := hd.rep st r
        rw [reps_bls rv] at hq
        exact .inl ⟨p, ns, rfl, SqL.of hq, .same e st q rfl⟩
      · obtain ⟨p, vs, rfl, hq, rv⟩ := hd.rep st r
        rw [reps_ints rv] at hq
        exact .inr ⟨p, ns, rfl, SqL.of hq, .same e st q rfl⟩) he) (by decide) (by decide) he
/-! tuple, list, max, min -/
theorem ex_tupc (hg : gloB c.sc "tuple" = true) (hm : g.mg "tuple" = none) (h : EX g c a δ M fun x M1 => ∃ ds, SeqD M1 x ds ∧ Q (.tup ds) M1) (he : ∀ env, starEach [a] env = (false, eval a env) :: starEach [] env := by intro _; rfl) : EX g c (.Call (.Name "tuple" p) [a] [] pos) δ M Q :=
  ex_callTy (r := fun xs H Q => ∃ p ys, xs = [.ref p] ∧ ((SqL g.K H p ys ∧ ∀ l, H l = none → Q (.ref l) (upd H l (.tup ys))) ∨ (SqT g.K H p ys ∧ Q (.ref p) H))) (fun X hK _ => hK ▸ call_tuple_of) hg hm (by decide +kernel)
    (ax1 (EX.imp h fun d M1 ⟨ds, hd, q⟩ => da1 fun Fa F H v e st r => by
      obtain ⟨p, vs, rfl, hq, rv⟩ := hd.rep st r
      rcases hq with hq | hq
      · exact ⟨p, vs, rfl, .inl ⟨hq, fun l hl => PoE.tup e st hl rv q⟩⟩
      · cases d with
        | tup xs =>
          have hd : xs = ds := hd
          rw [← hd] at q
          exact ⟨p, vs, rfl, .inr ⟨hq, .same e st q r⟩⟩
        | lst xs =>
          obtain ⟨p', vs', e1, h2, h3⟩ := r
          cases e1
          have hd : xs = ds := hd
          rw [hd] at h3
          exact ⟨p, vs', rfl, .inl ⟨SqL.of (st.ex _ _ h2), fun l hl => PoE.tup e st hl h3 q⟩⟩
        | fro xs =>
          obtain ⟨p', vs', e1, h2, h3⟩ := r
          cases e1
          have hd : xs = ds := hd
          rw [hd] at h3
          exact ⟨p, vs', rfl, .inl ⟨Evl.ex_l st.ex h2, fun l hl => PoE.tup e st hl h3 q⟩⟩
        | ref b =>
          have r : V.ref p = .ref b := r
          cases r
          obtain ⟨_, vs', h2, h3⟩ := st.mem p _ (show M1 p = some (.lst ds) from hd)
          exact ⟨p, vs', rfl, .inl ⟨SqL.of h2, fun l hl => PoE.tup e st hl h3 q⟩⟩
        | _ => exact absurd hd (fun z => z)) he) (by decide) (by decide) he
/-- list(x): a list that may change -/
theorem ex_lisc (hg : gloB c.sc "list" = true) (hm : g.mg "list" = none) (h : EX g c a δ M fun x M1 => ∃ ds, SeqD M1 x ds ∧ ((∀ q, M1 q = none → Q (.ref q) (mup M1 q (.lst ds))) ∨ Q (.lst ds) M1)) (he : ∀ env, starEach [a] env = (false, eval a env) :: starEach [] env := by intro _; rfl) : EX g c (.Call (.Name "list" p) [a] [] pos) δ M Q :=
  ex_callTy (r := fun xs H Q => ∃ p ys, xs = [.ref p] ∧ (SqL g.K H p ys ∨ SqT g.K H p ys) ∧ ∀ l, H l = none → Q (.ref l) (upd H l (.lst ys))) (fun X hK _ => hK ▸ call_list_of) hg hm (by decide +kernel)
    (ax1 (EX.imp h fun d M1 ⟨ds, hd, q⟩ => da1 fun Fa F H v e st r => by
      obtain ⟨p, vs, rfl, hq, rv⟩ := hd.rep st r
      exact ⟨p, vs, rfl, hq, fun l hl => q.elim (fun q => PoE.new e st hl rv (q l)) fun q => PoE.lst e st hl rv q⟩) he) (by decide) (by decide) he
theorem da2 {r : List V → Hp → VK → Prop} {d d' : D} (h : ∀ Fa F H v u, Ex Fa F → Sto g.K F M H → Rep g.K F d v → Rep g.K F d' u → r [v, u] H (PoE g Fa Q)) : DA g r [d, d'] M Q := fun Fa F H vs e st rs => by
  obtain ⟨v, us, rfl, h1, u, us', rfl, h2, h3⟩ := rs
  obtain rfl : us' = [] := h3
  exact h Fa F H v u e st h1 h2
theorem ex_max (hg : gloB c.sc "max" = true) (hm : g.mg "max" = none) (h : EX g c a δ M fun x M1 => EX g c b δ M1 fun y M2 => ∃ i j, x = .int i ∧ y = .int j ∧ Q (.int (if j > i then j else i)) M2)
    (hs : ∀ env, starEach [a, b] env = (false, eval a env) :: starEach [b] env := by intro _; rfl) (hs2 : ∀ env, starEach [b] env = (false, eval b env) :: starEach [] env := by intro _; rfl) (hpl : ∀ env, (backTo pos (starEach [b] env)).any (·.1) = false := by intro _; rfl) : EX g c (.Call (.Name "max" p) [a, b] [] pos) δ M Q :=
  ex_callB (r := fun xs H Q => ∃ i j, xs = [.int i, .int j] ∧ Q (.int (if j > i then j else i)) H) (fun X hK hc => call_max2 hc) hg hm (by decide +kernel)
    (ax2 (EX.imp h fun d M1 qa => EX.imp qa fun d' M2 ⟨i, j, h1, h2, qb⟩ => da2 fun Fa F H v u e st r1 r2 => by
      clear qa h
      subst h1 h2
      exact ⟨i, j, by rw [show v = .int i from r1, show u = .int j from r2], .same e st qb rfl⟩) hs hs2) (by decide) (by decide) hs hpl
theorem ex_min (hg : gloB c.sc "min" = true) (hm : g.mg "min" = none) (h : EX g c a δ M fun x M1 => EX g c b δ M1 fun y M2 => ∃ i j, x = .int i ∧ y = .int j ∧ Q (.int (if j < i then j else i)) M2)
    (hs : ∀ env, starEach [a, b] env = (false, eval a env) :: starEach [b] env := by intro _; rfl) (hs2 : ∀ env, starEach [b] env = (false, eval b env) :: starEach [] env := by intro _; rfl) (hpl : ∀ env, (backTo pos (starEach [b] env)).any (·.1) = false := by intro _; rfl) : EX g c (.Call (.Name "min" p) [a, b] [] pos) δ M Q :=
  ex_callB (r := fun xs H Q => ∃ i j, xs = [.int i, .int j] ∧ Q (.int (if j < i then j else i)) H) (fun X hK hc => call_min2 hc) hg hm (by decide +kernel)
    (ax2 (EX.imp h fun d M1 qa => EX.imp qa fun d' M2 ⟨i, j, h1, h2, qb⟩ => da2 fun Fa F H v u e st r1 r2 => by
      clear qa h
      subst h1 h2
      exact ⟨i, j, by rw [show v = .int i from r1, show u = .int j from r2], .same e st qb rfl⟩) hs hs2) (by decide) (by decide) hs hpl
/-! isinstance -/
def tyD (M : Mem) (x : D) (T : String) : Prop := match x with
  | .non => T = "NoneType"
  | .bl _ => T = "bool"
  | .int _ => T = "int"
  | .str _ => T = "str"
  | .tup _ => T = "tuple"
  | .lst _ => T = "list"
  | .ref a => T = "list" ∧ ∃ ds, M a = some (.lst ds)
  | _ => False
theorem tyD.rep {F H : Hp} {x : D} {T : String} {v : V} (h : tyD M x T) (st : Sto g.K F M H) (r : Rep g.K F x v) : TyX g.K H v (.type T) := by
  cases x with
  | non =>
    obtain rfl : T = "NoneType" := h
    rw [show v = .non from r]
    exact .base .non
  | bl b =>
    obtain rfl : T = "bool" := h
    rw [show v = .bl b from r]
    exact .base (.bl b)
  | int b =>
    obtain rfl : T = "int" := h
    rw [show v = .int b from r]
    exact .base (.int b)
  | str b =>
    obtain rfl : T = "str" := h
    rw [show v = .str b from r]
    exact .base (.str b)
  | tup ds =>
    obtain rfl : T = "tuple" := h
    obtain ⟨p, vs, rfl, h2, _⟩ := r
    rcases Evl.ex_t st.ex h2 with (h2 | ⟨o, h2⟩) | ⟨o, its, n, h2, h3, _⟩
    · exact .base (.tup h2)
    · exact .fTuple h2
    · exact .kTuple h2 h3
  | lst ds =>
    obtain rfl : T = "list" := h
    obtain ⟨p, vs, rfl, h2, _⟩ := r
    exact .base (.lst (st.ex _ _ h2))
  | ref a =>
    obtain ⟨rfl, ds, hm⟩ := h
    rw [show v = .ref a from r]
    obtain ⟨_, vs, h1, _⟩ := st.mem a _ hm
    exact .base (.lst h1)
  | _ => exact absurd h (fun z => z)
theorem ex_isi {T : Str} {T' : String} {p2 : Pos} (hg : gloB c.sc "isinstance" = true) (hm : g.mg "isinstance" = none) (hg2 : gloB c.sc T = true) (hm2 : g.mg T = none) (hv2 : bootBuiltins T = some (.type T')) (h : EX g c a δ M fun x M1 => ∃ U r, tyD M1 x U ∧ kitB U T' = some r ∧ Q (.bl r) M1)
    (hs : ∀ env, starEach [a, .Name T p2] env = (false, eval a env) :: starEach [.Name T p2] env := by intro _; rfl) (hpl : ∀ env, (backTo pos (starEach [.Name T p2] env)).any (·.1) = false := by intro _; rfl)
    (hn : T ≠ "__name__" := by decide) (hdb : (T == ("__debug__" : Str)) = false := by decide) : EX g c (.Call (.Name "isinstance" p) [a, .Name T p2] [] pos) δ M Q := by
  intro X F0 G F σ H eF st sl
  refine wE_of (pe_callB call_isi (G.gl hg) (by rw [G.mg]; exact hm) (by decide +kernel) (pa_cons pe_wE (pa_cons (pe_bltn (v := .ty T') (G.gl hg2) (by rw [G.mg]; exact hm2) hv2 rfl hn hdb) pa_nil) (hs X.env)) (by decide) (by decide) (hs X.env) (hpl X.env))
    (wE_mono (h X F0 G F σ H eF st sl) fun v H1 q => ?_)
  obtain ⟨F1, M1, d, e1, st1, r, U, b, h1, h2, q⟩ := q
  exact ⟨v, .ty T', .type U, .type T', b, rfl, .ty T', by rw [G.K]; exact h1.rep st1 r, kit_ty h2, F1, M1, .bl b, e1, st1, rfl, q⟩
theorem ex_isi2 {T1 T2 : Str} {T1' T2' : String} {p2 p3 p4 : Pos} {kk : Nat} (hg : gloB c.sc "isinstance" = true) (hm : g.mg "isinstance" = none) (hg2 : gloB c.sc T1 = true) (hm2 : g.mg T1 = none) (hv2 : bootBuiltins T1 = some (.type T1')) (hg3 : gloB c.sc T2 = true) (hm3 : g.mg T2 = none) (hv3 : bootBuiltins T2 = some (.type T2'))
    (h : EX g c a δ M fun x M1 => ∃ U r r', tyD M1 x U ∧ kitB U T1' = some r ∧ kitB U T2' = some r' ∧ Q (.bl (r || r')) M1)
    (hs : ∀ env, starEach [a, .Tuple [.Name T1 p2, .Name T2 p3] kk p4] env = (false, eval a env) :: starEach [.Tuple [.Name T1 p2, .Name T2 p3] kk p4] env := by intro _; rfl) (hpl : ∀ env, (backTo pos (starEach [.Tuple [.Name T1 p2, .Name T2 p3] kk p4] env)).any (·.1) = false := by intro _; rfl)
    (hn : T1 ≠ "__name__" := by decide) (hdb : (T1 == ("__debug__" : Str)) = false := by decide) (hn' : T2 ≠ "__name__" := by decide) (hdb' : (T2 == ("__debug__" : Str)) = false := by decide) : EX g c (.Call (.Name "isinstance" p) [a, .Tuple [.Name T1 p2, .Name T2 p3] kk p4] [] pos) δ M Q := by
  intro X F0 G F σ H eF st sl
  refine wE_of (pe_callB call_isiT (G.gl hg) (by rw [G.mg]; exact hm) (by decide +kernel) (pa_cons pe_wE (pa_cons (pe_tup (pa_cons (pe_bltn (v := .ty T1') (G.gl hg2) (by rw [G.mg]; exact hm2) hv2 rfl hn hdb) (pa_cons (pe_bltn (v := .ty T2') (G.gl hg3) (by rw [G.mg]; exact hm3) hv3 rfl hn' hdb') pa_nil))) pa_nil) (hs X.env)) (by decide) (by decide) (hs X.env) (hpl X.env))
    (wE_mono (h X F0 G F σ H eF st sl) fun v H1 q => ?_)
  obtain ⟨F1, M1, d, e1, st1, r, U, b, b', h1, h2, h3, q⟩ := q
  refine ⟨by show 2 ≤ sizeLine; decide, fun l hl => ?_⟩
  obtain ⟨e2, st2⟩ := st1.frozen (o := .tup [.ty T1', .ty T2']) hl
  refine ⟨v, l, [.ty T1', .ty T2'], .type U, [.type T1', .type T2'], b || b', rfl, upd_same, .cons (.ty T1') (.cons (.ty T2') .nil), by rw [G.K]; exact h1.rep st2 (r.mono e2), ?_, _, M1, .bl (b || b'), e1.trans e2, st2, rfl, q⟩
  refine kitAny_cons (kit_ty h2) (fun hb => kitAny_cons (b := b') (kit_ty h3) (fun hb' => ?_) fun hb' => ?_) fun hb => ?_
  · rw [hb, hb']
    exact kitAny_nil
  · rw [hb']
    cases b <;> rfl
  · rw [hb]
    rfl
/-! methods of texts and lists -/
theorem ex_split (h : EX g c a δ M fun x M1 => ∃ z, x = .str z ∧ EX g c b δ M1 fun y M2 => ∃ w, y = .str w ∧ (w.length == 0) = false ∧ z.length + 2 ≤ sizeLine ∧ Q (.lst ((Txt.split z w).map D.str)) M2) (hs : ∀ env, starEach [b] env = [(false, eval b env)] := by intro _; rfl)
    (hb : ∀ env, attributeBase a "split" env (eval a env) = eval a env := by intro _; rfl) (hl : (apos.endLine == pos.line) = true := by rfl) : EX g c (.Call (.Attribute a "split" apos) [b] [] pos) δ M Q := by
  intro X F0 G F σ H eF st sl
  refine wE_of (pe_split pe_wE pe_wE (hs X.env) (hb X.env) hl) (wE_mono (h X F0 G F σ H eF st sl) fun v H1 q => ?_)
  obtain ⟨F1, M1, x, e1, st1, rx, z, rfl, h1⟩ := q
  obtain rfl : v = .str z := rx
  refine ⟨⟨z, rfl⟩, wE_mono (h1 X F0 G F1 σ H1 (eF.trans e1) st1 (sl.mono e1)) fun u H2 q2 => ?_⟩
  obtain ⟨F2, M2, y, e2, st2, ry, w, rfl, h2, h3, q⟩ := q2
  obtain rfl : u = .str w := ry
  refine ⟨z, w, rfl, rfl, h2, h3, fun l hl => PoE.lst (e1.trans e2) st2 hl ?_ q⟩
  have key : ∀ ys : List Str, Reps g.K F2 (ys.map D.str) (ys.map V.str) := fun ys => by
    induction ys with
    | nil => exact .nil
    | cons y ys ih => exact .cons rfl ih
  exact key _
theorem ex_join (h : EX g c a δ M fun x M1 => ∃ z, x = .str z ∧ EX g c b δ M1 fun y M2 => ∃ ys : List Str, SeqD M2 y (ys.map D.str) ∧ (ys.map (·.length)).sum + ys.length * z.length ≤ 16777216 ∧ Q (.str (Txt.join z ys)) M2) (hs : ∀ env, starEach [b] env = [(false, eval b env)] := by intro _; rfl)
    (hb : ∀ env, attributeBase a "join" env (eval a env) = eval a env := by intro _; rfl) (hl : (apos.endLine == pos.line) = true := by rfl) : EX g c (.Call (.Attribute a "join" apos) [b] [] pos) δ M Q := by
  intro X F0 G F σ H eF st sl
  refine wE_of (pe_join pe_wE pe_wE (hs X.env) (hb X.env) hl) (wE_mono (h X F0 G F σ H eF st sl) fun v H1 q => ?_)
  obtain ⟨F1, M1, x, e1, st1, rx, z, rfl, h1⟩ := q
  obtain rfl : v = .str z := rx
  refine ⟨⟨z, rfl⟩, wE_mono (h1 X F0 G F1 σ H1 (eF.trans e1) st1 (sl.mono e1)) fun u H2 q2 => ?_⟩
  obtain ⟨F2, M2, y, e2, st2, ry, ys, hy, h2, q⟩ := q2
  obtain ⟨p, vs, rfl, hq, rv⟩ := hy.rep st2 ry
  rw [reps_strs rv] at hq
  exact ⟨z, p, ys, rfl, rfl, by rw [G.K]; exact hq, h2, .same (e1.trans e2) st2 q rfl⟩
theorem ex_starts (h : EX g c a δ M fun x M1 => ∃ z, x = .str z ∧ EX g c b δ M1 fun y M2 => ∃ w, y = .str w ∧ Q (.bl (Txt.startswith z w)) M2) (hs : ∀ env, starEach [b] env = [(false, eval b env)] := by intro _; rfl)
    (hb : ∀ env, attributeBase a "startswith" env (eval a env) = eval a env := by intro _; rfl) (hl : (apos.endLine == pos.line) = true := by rfl) : EX g c (.Call (.Attribute a "startswith" apos) [b] [] pos) δ M Q := by
  intro X F0 G F σ H eF st sl
  refine wE_of (pe_m1 PySem.F.slot_str_startswith PySem.F.type_str_startswith mt_startswith pe_wE pe_wE (hs X.env) (hb X.env) hl) (wE_mono (h X F0 G F σ H eF st sl) fun v H1 q => ?_)
  obtain ⟨F1, M1, x, e1, st1, rx, z, rfl, h1⟩ := q
  obtain rfl : v = .str z := rx
  refine ⟨⟨z, rfl⟩, wE_mono (h1 X F0 G F1 σ H1 (eF.trans e1) st1 (sl.mono e1)) fun u H2 q2 => ?_⟩
  obtain ⟨F2, M2, y, e2, st2, ry, w, rfl, q⟩ := q2
  obtain rfl : u = .str w := ry
  exact ⟨z, w, rfl, rfl, .same (e1.trans e2) st2 q rfl⟩
theorem tyV_lst {F H : Hp} {q : Addr} {ds : List D} (st : Sto g.K F M H) (h : M q = some (.lst ds)) : tyV g.K "list" (.ref q) H := by
  obtain ⟨_, vs, h1, _⟩ := st.mem q _ h
  exact .inl ⟨rfl, vs, SqL.of h1⟩
theorem ex_append (h : EX g c a δ M fun x M1 => ∃ q ds, x = .ref q ∧ M1 q = some (.lst ds) ∧ EX g c b δ M1 fun y M2 => ∃ ds', M2 q = some (.lst ds') ∧ ds'.length < sizeLine ∧ Q .non (mup M2 q (.lst (ds' ++ [y])))) (hs : ∀ env, starEach [b] env = (false, eval b env) :: starEach [] env := by intro _; rfl)
    (hb : ∀ X : Cx, attributeBase a "append" X.env (eval a X.env) = eval a X.env := by intro _; rfl)
    (hfew : ∀ X : Cx, ((backTo pos (starEach [b] X.env)).all (fun x => !x.1) && (backToKw pos (keywordEach [] X.env)).all (fun x => x.1.isSome) && decide (([b] : List Expr).length + ([] : List Keyword).length + (if ([] : List Keyword).isEmpty then 0 else 1) < 30)) = true := by intro _; rfl)
    (hl : (apos.endLine == pos.line) = true := by rfl) (hpl : ∀ X : Cx, (backTo pos (starEach [] X.env)).any (·.1) = false := by intro _; rfl) : EX g c (.Call (.Attribute a "append" apos) [b] [] pos) δ M Q := by
  intro X F0 G F σ H eF st sl
  refine wE_of (pe_bm PySem.F.plainAttrs_list PySem.F.slot_list_append PySem.F.type_list_append mt_append pe_wE (pa_cons pe_wE pa_nil (hs X.env)) (hb X) (hfew X) hl (hs X.env) (hpl X)) (wE_mono (h X F0 G F σ H eF st sl) fun v H1 q => ?_)
  obtain ⟨F1, M1, x, e1, st1, rx, l, ds, rfl, hm, h1⟩ := q
  obtain rfl : v = .ref l := rx
  refine ⟨by rw [G.K]; exact tyV_lst st1 hm, wE_mono (h1 X F0 G F1 σ H1 (eF.trans e1) st1 (sl.mono e1)) fun u H2 q2 => ?_⟩
  obtain ⟨F2, M2, y, e2, st2, ry, ds', hm2, hz, q⟩ := q2
  obtain ⟨_, vs, hu, ru⟩ := st2.mem l _ hm2
  exact ⟨l, vs, u, rfl, rfl, hu, by rw [ru.length]; exact hz, F2, _, .non, e1.trans e2, st2.setL hm2 (ru.app (.cons ry .nil)), rfl, q⟩
theorem Reps.erase {K : PySem.W.Frag} {F : Hp} : ∀ {ds : List D} {vs : List V} (i : Nat), Reps K F ds vs → Reps K F (ds.eraseIdx i) (vs.eraseIdx i)
  | [], _, _, h => by
    obtain rfl : _ = [] := h
    exact rfl
  | _ :: _, _, 0, ⟨v, r, h1, h2, h3⟩ => by
    subst h1
    exact h3
  | _ :: _, _, i + 1, ⟨v, r, h1, h2, h3⟩ => by
    subst h1
    exact ⟨v, _, rfl, h2, Reps.erase i h3⟩
theorem ex_popAt (h : EX g c a δ M fun x M1 => ∃ q ds, x = .ref q ∧ M1 q = some (.lst ds) ∧ EX g c b δ M1 fun y M2 => ∃ ds' i d, y = .int i ∧ M2 q = some (.lst ds') ∧ 0 ≤ i ∧ i < 2 ^ 63 ∧ ds'[i.toNat]? = some d ∧ Q d (mup M2 q (.lst (ds'.eraseIdx i.toNat)))) (hs : ∀ env, starEach [b] env = (false, eval b env) :: starEach [] env := by intro _; rfl)
    (hb : ∀ X : Cx, attributeBase a "pop" X.env (eval a X.env) = eval a X.env := by intro _; rfl)
    (hfew : ∀ X : Cx, ((backTo pos (starEach [b] X.env)).all (fun x => !x.1) && (backToKw pos (keywordEach [] X.env)).all (fun x => x.1.isSome) && decide (([b] : List Expr).length + ([] : List Keyword).length + (if ([] : List Keyword).isEmpty then 0 else 1) < 30)) = true := by intro _; rfl)
    (hl : (apos.endLine == pos.line) = true := by rfl) (hpl : ∀ X : Cx, (backTo pos (starEach [] X.env)).any (·.1) = false := by intro _; rfl) : EX g c (.Call (.Attribute a "pop" apos) [b] [] pos) δ M Q := by
  intro X F0 G F σ H eF st sl
  refine wE_of (pe_bm PySem.F.plainAttrs_list PySem.F.slot_list_pop PySem.F.type_list_pop mt_popAt pe_wE (pa_cons pe_wE pa_nil (hs X.env)) (hb X) (hfew X) hl (hs X.env) (hpl X)) (wE_mono (h X F0 G F σ H eF st sl) fun v H1 q => ?_)
  obtain ⟨F1, M1, x, e1, st1, rx, l, ds, rfl, hm, h1⟩ := q
  obtain rfl : v = .ref l := rx
  refine ⟨by rw [G.K]; exact tyV_lst st1 hm, wE_mono (h1 X F0 G F1 σ H1 (eF.trans e1) st1 (sl.mono e1)) fun u H2 q2 => ?_⟩
  obtain ⟨F2, M2, y, e2, st2, ry, ds', i, d, rfl, hm2, h0, hi63, hi, q⟩ := q2
  obtain ⟨_, vs, hu, ru⟩ := st2.mem l _ hm2
  obtain ⟨w, hw, rw'⟩ := ru.get hi
  have hlt := (List.getElem?_eq_some_iff.mp hw).1
  exact ⟨l, vs, i, i.toNat, w, rfl, by rw [show u = .int i from ry], hu, by omega, hi63, seqIndex_of h0 (by omega), hw, F2, _, d, e1.trans e2, st2.setL hm2 (ru.erase _), rw', q⟩
/-! tuple(reversed(list)), xs[::-1] -/
theorem ex_tupRev {p2 pos2 : Pos} (hg : gloB c.sc "tuple" = true) (hm : g.mg "tuple" = none) (hg2 : gloB c.sc "reversed" = true) (hm2 : g.mg "reversed" = none) (h : EX g c e δ M fun x M1 => ∃ ds, LstD M1 x ds ∧ Q (.tup ds.reverse) M1)
    (hs : ∀ env, starEach [e] env = (false, eval e env) :: starEach [] env := by intro _; rfl) (hs2 : ∀ env, starEach [.Call (.Name "reversed" p2) [e] [] pos2] env = (false, eval (.Call (.Name "reversed" p2) [e] [] pos2) env) :: starEach [] env := by intro _; rfl) :
    EX g c (.Call (.Name "tuple" p) [.Call (.Name "reversed" p2) [e] [] pos2] [] pos) δ M Q := by
  intro X F0 G F σ H eF st sl
  refine wE_of (RT.pe_tupRev G.calm (G.gl hg) (by rw [G.mg]; exact hm) (G.gl hg2) (by rw [G.mg]; exact hm2) pe_wE (hs X.env) (hs2 X.env)) (wE_mono (h X F0 G F σ H eF st sl) fun v H1 q => ?_)
  obtain ⟨F1, M1, x, e1, st1, rx, ds, hd, q⟩ := q
  obtain ⟨l, vs, rfl, h1, h2⟩ := hd.rep st1 rx
  exact ⟨l, vs, rfl, SqL.of h1, fun q' hq => PoE.tup e1 st1 hq h2.rev q⟩
theorem ex_revL {k : Nat} {p1 p2 p3 : Pos} (h : EX g c e δ M fun x M1 => ∃ ds, LstD M1 x ds ∧ Q (.lst ds.reverse) M1) : EX g c (.Subscript e (.Slice none none (some (.UnaryOp .USub (.Constant (.int 1) k p1) p2)) p3) pos) δ M Q := by
  intro X F0 G F σ H eF st sl
  refine wE_of (pe_revL pe_wE) (wE_mono (h X F0 G F σ H eF st sl) fun v H1 q => ?_)
  obtain ⟨F1, M1, x, e1, st1, rx, ds, hd, q⟩ := q
  obtain ⟨l, vs, rfl, h1, h2⟩ := hd.rep st1 rx
  exact ⟨l, vs, rfl, SqL.of h1, fun q' hq => PoE.lst e1 st1 hq h2.rev q⟩
end DL

set_option Elab.async false
set_option linter.all false
set_option maxRecDepth 100000
set_option maxHeartbeats 1000000
/-! # The D-layer, part 9: defs -/
namespace DL
open PySem PySem.Spec PyProof.Rows L2
open Evl (Ex)
variable {g : Gb} {c : Cz} {δ : Sl} {M : Mem} {Q : D → Mem → Prop} {R : Bool → Mem → Prop} {O : Od} {pos : Pos} {a b e : Expr} {rest es : List Expr} {st : Stmt} {sts : List Stmt} {x : Str} {p apos : Pos}

def startD (N : List Str) (ds : List D) : Sl := ds.map some ++ List.replicate (N.length - ds.length) none
theorem reps_slots {K : PySem.W.Frag} {F : Hp} {n : Nat} : ∀ {ds : List D} {vs : List V}, Reps K F ds vs → ∀ (i : Nat) (d : D), (ds.map some ++ List.replicate n none)[i]? = some (some d) → ∃ v, (vs.map some ++ List.replicate n none)[i]? = some (some v) ∧ Rep K F d v
  | [], vs, r, i, d, h => by
    have z : (List.replicate n (none : Option D))[i]? = some (some d) := h
    rw [List.getElem?_replicate] at z
    split at z <;> cases z
  | d' :: ds, _, ⟨v, us, h1, h2, h3⟩, 0, d, h => by
    subst h1
    have e : some (some d') = some (some d) := h
    injection e with e
    injection e with e
    subst e
    exact ⟨v, rfl, h2⟩
  | d' :: ds, _, ⟨v, us, h1, h2, h3⟩, i + 1, d, h => by
    subst h1
    have h' : (ds.map some ++ List.replicate n (none : Option D))[i]? = some (some d) := by simpa using h
    obtain ⟨u, a, b⟩ := reps_slots h3 i d h'
    exact ⟨u, by simpa using a, b⟩
theorem start_rep {K : PySem.W.Frag} {F : Hp} {N : List Str} {ds : List D} {vs : List V} (r : Reps K F ds vs) : SlotsR K F (startD N ds) (L2.start N vs) := by
  have hl := r.length
  refine ⟨?_, fun i d h => ?_⟩
  · unfold startD L2.start
    rw [List.length_append, List.length_append, List.length_map, List.length_map, List.length_replicate, List.length_replicate, hl]
  · unfold startD at h
    unfold L2.start
    rw [hl]
    exact reps_slots r i d h
/-- a def's body: its context, its ends -/
def bodyC (N : List Str) (sc : Scope) (k : Nat) (Ed : Addr → List Str → List D → Mem → Prop) (qual : Str) (cd : Value) : Cz where
  N := N
  sc := sc
  k := k
  E := fun C ns xs _ M' => ∃ M'', MSub M'' M' ∧ Ed C ns xs M''
  fnb := fun _ => true
  top := true
  qual := qual ++ ".<locals>."
  cd := cd
def bodyO (Qd : D → Mem → Prop) : Od where
  nx := fun _ M' => ∃ M'', MSub M'' M' ∧ Qd .non M''
  rt := fun d M' => ∃ M'', MSub M'' M' ∧ Qd d M''
abbrev Fok (g : Gb) (k : Nat) (f : Addr) (fd : FuncData) (ps : List Str) (sp : DSp) : Prop := FnOk g.P g.w g.K g.mg g.base (L2.CX g.P g.w) k f fd ps (Lsp g sp)
theorem fn_def {x qual : Str} {st : Stmt} {f : Addr} {fd : FuncData} {N ps : List Str} {k : Nat} {sp : DSp} (F : Fun g.K x qual st f fd) (S : FnScope N ps (defScope st)) (len : ∀ ds M Q E, sp ds M Q E → ds.length = ps.length)
    (hb : ∀ ds M Qd Ed cd, sp ds M Qd Ed → SXs g (bodyC N (defScope st) k Ed qual cd) (defBody st) (startD N ds) M (bodyO Qd)) : Fok g (k + 1) f fd ps sp := by
  refine F.okX S (fun vs H Q E h => ?_) fun cdv A outer s H vs Q E hr h => ?_
  · obtain ⟨F1, M1, ds, Qd, Ed, st1, r, h, _⟩ := h
    rw [r.length]
    exact len _ _ _ _ h
  · obtain ⟨F1, M1, ds, Qd, Ed, st1, r, h, hQ, hE⟩ := h
    refine ⟨_, pss_wSs, ?_⟩
    have G : Good g (bodyC N (defScope st) k Ed qual cdv) (cxOf (L2.CX g.P g.w) g.P g.w g.K g.mg g.base N qual (defScope st) f cdv A outer s H E) F1 := {
      prog := rfl, w := rfl, K := rfl, mg := rfl, base := rfl, N := rfl, nd := S.nd, sc := rfl, knd := S.kind, calm := rfl, room := hr
      takes := (takes_of rfl rfl rfl rfl).imp fun cls d σ H' ⟨C, dd, ns, us, xs, F', δ, M', e1, e2, e3, s1, sl, hd, hl, rr, M'', hs, hEd⟩ => by
        subst e1 e2
        exact hE C ns xs M'' hEd F' H' dd us e3 (s1.sub hs) hd hl rr
      pas := passes_of rfl
      fn := fun _ _ => rfl
      top := fun _ => ⟨rfl, rfl, rfl, rfl, rfl⟩ }
    refine wSs_mono (hb ds M1 Qd Ed cdv h _ F1 G F1 _ H (Evl.Ex.refl F1) st1 (start_rep r)) ⟨fun σ' H' q => ?_, fun v H' q => ?_, fun σ' H' q => ?_, fun σ' H' q => ?_⟩
    · obtain ⟨F2, M2, δ2, e2, s2, _, M3, hs, q⟩ := q
      exact hQ .non M3 q F2 .non H' e2 (s2.sub hs) rfl
    · obtain ⟨F2, M2, d, e2, s2, r2, M3, hs, q⟩ := q
      exact hQ d M3 q F2 v H' e2 (s2.sub hs) r2
    · obtain ⟨_, _, _, _, _, _, q⟩ := q
      exact q
    · obtain ⟨_, _, _, _, _, _, q⟩ := q
      exact q
/-- a body's ends, plainly -/
theorem rt_of {Qd : D → Mem → Prop} {d : D} {M : Mem} (q : Qd d M) : (bodyO Qd).rt d M := ⟨M, MSub.refl M, q⟩
theorem rt_sub {Qd : D → Mem → Prop} {d : D} {M M' : Mem} (s : MSub M M') (q : Qd d M) : (bodyO Qd).rt d M' := ⟨M, s, q⟩
theorem nx_of {Qd : D → Mem → Prop} {δ : Sl} {M : Mem} (q : Qd .non M) : (bodyO Qd).nx δ M := ⟨M, MSub.refl M, q⟩
end DL

set_option Elab.async false
set_option linter.all false
set_option maxRecDepth 100000
set_option maxHeartbeats 1000000
/-! # The program's tables -/
namespace DL
open PySem PySem.Spec PyProof.Rows L2
open Evl (Ex)
def topS (i : Nat) : Stmt := PySem.Challenge.pw_logsapart_k55_whole_a_desk_of_one_store.main.body.getD i (.Pass ⟨0, 0, 0, 0⟩)
abbrev dd (x : Str) (m : Option Str) (n q : Str) (st : Stmt) : He.DefD := { at_ := (x, m), name := n, qual := q, params := defArgs st, body := defBody st, scope := defScope st }
def fnL : List He.DefD := [dd "is_integer" none "is_integer" "is_integer" (topS 12),
  dd "is_number" none "is_number" "is_number" (topS 13),
  dd "is_below" none "is_below" "is_below" (topS 14),
  dd "is_within" none "is_within" "is_within" (topS 15),
  dd "is_sequence" none "is_sequence" "is_sequence" (topS 16),
  dd "is_text" none "is_text" "is_text" (topS 17),
  dd "common_divisor" none "common_divisor" "common_divisor" (topS 18),
  dd "common_multiple" none "common_multiple" "common_multiple" (topS 19),
  dd "least_terms" none "least_terms" "least_terms" (topS 20),
  dd "check_marks" none "check_marks" "check_marks" (topS 22),
  dd "Hands" (some "__init__") "__init__" "Hands.__init__" (inClass (topS 23) 0),
  dd "sum_of_parts" none "sum_of_parts" "sum_of_parts" (topS 24),
  dd "share" none "share" "share" (topS 25),
  dd "need_telling" none "need_telling" "need_telling" (topS 26),
  dd "need_hand" none "need_hand" "need_hand" (topS 27),
  dd "laid_out" none "laid_out" "laid_out" (topS 30),
  dd "stretch_with" none "stretch_with" "stretch_with" (topS 31),
  dd "Dial" (some "__init__") "__init__" "Dial.__init__" (inClass (topS 32) 0),
  dd "place_of" none "place_of" "place_of" (topS 33),
  dd "turned_mark" none "turned_mark" "turned_mark" (topS 34),
  dd "acted" none "acted" "acted" (topS 35),
  dd "marks_at" none "marks_at" "marks_at" (topS 37),
  dd "struck_back" none "struck_back" "struck_back" (topS 38),
  dd "check_cells" none "check_cells" "check_cells" (topS 42),
  dd "with_number" none "with_number" "with_number" (topS 43),
  dd "marks_of" none "marks_of" "marks_of" (topS 44),
  dd "last_entries" none "last_entries" "last_entries" (topS 45),
  dd "hand_behind" none "hand_behind" "hand_behind" (topS 46),
  dd "entered" none "entered" "entered" (topS 47),
  dd "taken" none "taken" "taken" (topS 48),
  dd "Store" (some "__init__") "__init__" "Store.__init__" (inClass (topS 49) 0),
  dd "Store" (some "put") "put" "Store.put" (inClass (topS 49) 1),
  dd "Store" (some "who_undoes") "who_undoes" "Store.who_undoes" (inClass (topS 49) 2),
  dd "Store" (some "who_redoes") "who_redoes" "Store.who_redoes" (inClass (topS 49) 3),
  dd "Store" (some "undo_last") "undo_last" "Store.undo_last" (inClass (topS 49) 4),
  dd "Store" (some "redo_next") "redo_next" "Store.redo_next" (inClass (topS 49) 5),
  dd "Store" (some "sheet") "sheet" "Store.sheet" (inClass (topS 49) 6),
  dd "is_entry" none "is_entry" "is_entry" (topS 50),
  dd "entry_logs" none "entry_logs" "entry_logs" (topS 51),
  dd "check_sheet" none "check_sheet" "check_sheet" (topS 52),
  dd "walked" none "walked" "walked" (topS 53),
  dd "ways_of" none "ways_of" "ways_of" (topS 54),
  dd "deeds_of" none "deeds_of" "deeds_of" (topS 55),
  dd "store_of" none "store_of" "store_of" (topS 56),
  dd "numbers_text" none "numbers_text" "numbers_text" (topS 60),
  dd "read_number" none "read_number" "read_number" (topS 61),
  dd "read_hands" none "read_hands" "read_hands" (topS 62),
  dd "told_number" none "told_number" "told_number" (topS 68),
  dd "rows_text" none "rows_text" "rows_text" (topS 69),
  dd "hand_text" none "hand_text" "hand_text" (topS 70),
  dd "read_store" none "read_store" "read_store" (topS 71),
  dd "Desk" (some "__init__") "__init__" "Desk.__init__" (inClass (topS 72) 0),
  dd "Desk" (some "say_plain") "say_plain" "Desk.say_plain" (inClass (topS 72) 1),
  dd "Desk" (some "say_told") "say_told" "Desk.say_told" (inClass (topS 72) 2),
  dd "Desk" (some "say") "say" "Desk.say" (inClass (topS 72) 3),
  dd "_law_box" none "_law_box" "_law_box" (topS 74),
  dd "_law_take" none "_law_take" "_law_take" (topS 75),
  dd "_law_pick" none "_law_pick" "_law_pick" (topS 76),
  dd "_law_mixed" none "_law_mixed" "_law_mixed" (topS 77),
  dd "_law_marks" none "_law_marks" "_law_marks" (topS 78),
  dd "_law_size" none "_law_size" "_law_size" (topS 79),
  dd "_law_heads" none "_law_heads" "_law_heads" (topS 80),
  dd "_law_entered" none "_law_entered" "_law_entered" (topS 81),
  dd "_law_led" none "_law_led" "_law_led" (topS 82),
  dd "_law_row" none "_law_row" "_law_row" (topS 83),
  dd "_law_rows" none "_law_rows" "_law_rows" (topS 84),
  dd "_law_hand" none "_law_hand" "_law_hand" (topS 85),
  dd "_law_fault" none "_law_fault" "_law_fault" (topS 86),
  dd "_law_cells" none "_law_cells" "_law_cells" (topS 87),
  dd "_law_asked_right" none "_law_asked_right" "_law_asked_right" (topS 88),
  dd "_law_moved" none "_law_moved" "_law_moved" (topS 89),
  dd "_law_bad_lines_right" none "_law_bad_lines_right" "_law_bad_lines_right" (topS 90),
  dd "_law_texts_right" none "_law_texts_right" "_law_texts_right" (topS 91),
  dd "law" none "law" "law" (topS 92)]
def faL : List He.Fa := [.glo "is_integer", .glo "is_number", .glo "is_below", .glo "is_within", .glo "is_sequence", .glo "is_text", .glo "common_divisor", .glo "common_multiple", .glo "least_terms", .glo "check_marks", .glo "sum_of_parts", .glo "share", .glo "need_telling", .glo "need_hand", .glo "laid_out", .glo "stretch_with", .glo "place_of", .glo "turned_mark", .glo "acted", .glo "marks_at", .glo "struck_back", .glo "check_cells", .glo "with_number", .glo "marks_of", .glo "last_entries", .glo "hand_behind", .glo "entered", .glo "taken", .glo "is_entry", .glo "entry_logs", .glo "check_sheet", .glo "walked", .glo "ways_of", .glo "deeds_of", .glo "store_of", .glo "numbers_text", .glo "read_number", .glo "read_hands", .glo "told_number", .glo "rows_text", .glo "hand_text", .glo "read_store", .glo "_law_box", .glo "_law_take", .glo "_law_pick", .glo "_law_mixed", .glo "_law_marks", .glo "_law_size", .glo "_law_heads", .glo "_law_entered", .glo "_law_led", .glo "_law_row", .glo "_law_rows", .glo "_law_hand", .glo "_law_fault", .glo "_law_cells", .glo "_law_asked_right", .glo "_law_moved", .glo "_law_bad_lines_right", .glo "_law_texts_right", .glo "law", .glo "LogError", .glo "BadHands", .glo "BadText", .glo "Refused", .glo "TooGreat", .glo "NoTelling", .glo "NoHand", .glo "Hands", .glo "Dial", .glo "Store", .glo "Desk", .free "isinstance", .free "int", .free "bool", .free "list", .free "tuple", .free "str", .free "len", .free "sum", .free "range", .free "zip", .free "enumerate", .free "reversed", .free "any", .free "all", .free "abs", .free "max", .free "min", .free "repr", .free "super", .free "KeyError", .free "ValueError", .int "MOST_HANDS" 8, .int "MOST_MARKS" 60, .int "MOST_STORY" 10000, .int "MOST_SIZE" 1000000000, .int "MOST_CELLS" 20, .int "MOST_WORTH" 1000000000, .int "MOST_FIGURES" 9, .str "HEAD" "hands ", .str "NONE" "-", .str "FIGURES" "0123456789", .str "CELLS" "cells ", .cls "Hands", .mkr "Hands", .noat "Hands" "marks", .noat "Hands" "many", .cls "Dial", .mkr "Dial", .noat "Dial" "hands", .noat "Dial" "size", .noat "Dial" "arcs", .cls "Store", .mkr "Store", .noat "Store" "dial", .noat "Store" "hands", .noat "Store" "cells", .noat "Store" "done", .noat "Store" "undone", .meth "Store" "put", .meth "Store" "who_undoes", .meth "Store" "who_redoes", .meth "Store" "undo_last", .meth "Store" "redo_next", .meth "Store" "sheet", .cls "Desk", .mkr "Desk", .noat "Desk" "store", .meth "Desk" "say_plain", .meth "Desk" "say_told", .meth "Desk" "say", .keep "is_integer", .keep "is_number", .keep "is_below", .keep "is_within", .keep "is_sequence", .keep "is_text", .keep "common_divisor", .keep "common_multiple", .keep "least_terms", .keep "check_marks", .keep "sum_of_parts", .keep "share", .keep "need_telling", .keep "need_hand", .keep "laid_out", .keep "stretch_with", .keep "place_of", .keep "turned_mark", .keep "acted", .keep "marks_at", .keep "struck_back", .keep "check_cells", .keep "with_number", .keep "marks_of", .keep "last_entries", .keep "hand_behind", .keep "entered", .keep "taken", .keep "is_entry", .keep "entry_logs", .keep "check_sheet", .keep "walked", .keep "ways_of", .keep "deeds_of", .keep "store_of", .keep "numbers_text", .keep "read_number", .keep "read_hands", .keep "told_number", .keep "rows_text", .keep "hand_text", .keep "read_store", .keep "_law_box", .keep "_law_take", .keep "_law_pick", .keep "_law_mixed", .keep "_law_marks", .keep "_law_size", .keep "_law_heads", .keep "_law_entered", .keep "_law_led", .keep "_law_row", .keep "_law_rows", .keep "_law_hand", .keep "_law_fault", .keep "_law_cells", .keep "_law_asked_right", .keep "_law_moved", .keep "_law_bad_lines_right", .keep "_law_texts_right", .keep "law"]
/-- raise x(..) works: an exception of the class x with the fields ns -/
def RaiseOk (g : Gb) (x : Str) (ns : List Str) : Prop := ∀ (c : Cz) (δ : Sl) (M : Mem) (O : Od) (a : Expr) (es : List Expr) (p pos pos2 : Pos), 2 ≤ c.k → gloB c.sc x = true → c.top = true →
  (∀ env, starEach (a :: es) env = (false, eval a env) :: starEach es env) → (∀ env, (backTo pos (starEach es env)).any (·.1) = false) →
  AX g c (a :: es) δ M (fun ds M1 => ds.length = ns.length ∧ c.E (He.ga g.K x) ns ds δ M1) → SX g c (.Raise (some (.Call (.Name x p) (a :: es) [] pos)) none pos2) δ M O
structure Tb (g : Gb) : Prop where
  X : g.K.In g.base
  G : g.base.Ns mainGlobals g.mg
  c : He.SaysD faL fnL g.K
  rBadText : RaiseOk g "BadText" ["at"]
  rRefused : RaiseOk g "Refused" ["at"]
  rNoTelling : RaiseOk g "NoTelling" ["top", "bottom"]
  rNoHand : RaiseOk g "NoHand" ["hand"]
abbrev ga (g : Gb) (x : Str) : Addr := He.ga g.K x
theorem Tb.fun_ {g : Gb} (T : Tb g) (j : Nat) {x n q : Str} {m : Option Str} {st : Stmt} (h : fnL[j]? = some (dd x m n q st)) : ∃ fd, Fun g.K n q st (He.fAd g.K (x, m)) fd := by
  obtain ⟨fd, F⟩ := T.c.def_ j h
  exact ⟨fd, He5.fun_of F⟩
theorem Tb.kn {g : Gb} (T : Tb g) (j i : Nat) {x : Str} {st : Stmt} {ps : List Str} {k : Nat} {sp : DSp} (h : fnL[j]? = some (dd x none x x st)) (hi : faL[i]? = some (.glo x))
    (hb : ∀ (kV doc pm : Value) (an : Option Addr) (cdv ct : Value) (us : List Value), us.length = ps.length → bindArgs (PySem.W.fnOf x x (defArgs st) (defBody st) (defScope st) .none kV doc pm an cdv ct) ⟨us, []⟩ = pure (ps.zip us))
    (ok : ∀ f fd, Fun g.K x x st f fd → Fok g k f fd ps sp) : Kn g x k ps sp := by
  obtain ⟨fd, F⟩ := T.fun_ j h
  exact ⟨_, fd, ok _ fd F, He.glo_ok T.X T.G (T.c.fact i hi), F.kp, F.binds hb⟩
theorem Tb.km {g : Gb} (T : Tb g) (j i : Nat) {C m q : Str} {st : Stmt} {ps : List Str} {k : Nat} {sp : DSp} (h : fnL[j]? = some (dd C (some m) m q st)) (hi : faL[i]? = some (.meth C m))
    (hb : ∀ (kV doc pm : Value) (an : Option Addr) (cdv ct : Value) (us : List Value), us.length = ps.length → bindArgs (PySem.W.fnOf m q (defArgs st) (defBody st) (defScope st) .none kV doc pm an cdv ct) ⟨us, []⟩ = pure (ps.zip us))
    (ok : ∀ f fd, Fun g.K m q st f fd → Fok g k f fd ps sp) : Km g (ga g C) m k ps sp := by
  obtain ⟨fd, F⟩ := T.fun_ j h
  exact ⟨_, fd, ok _ fd F, He.meth_ok (T.c.fact i hi), F.binds hb⟩
theorem Tb.kc {g : Gb} (T : Tb g) (j i i' : Nat) {C q : Str} {st : Stmt} {ps : List Str} {k : Nat} {sp : DSp} (h : fnL[j]? = some (dd C (some "__init__") "__init__" q st)) (hi : faL[i]? = some (.mkr C)) (hi' : faL[i']? = some (.glo C))
    (hb : ∀ (kV doc pm : Value) (an : Option Addr) (cdv ct : Value) (us : List Value), us.length = ps.length → bindArgs (PySem.W.fnOf "__init__" q (defArgs st) (defBody st) (defScope st) .none kV doc pm an cdv ct) ⟨us, []⟩ = pure (ps.zip us))
    (ok : ∀ f fd, Fun g.K "__init__" q st f fd → Fok g k f fd ps sp) : Kc g C (ga g C) k ps sp := by
  obtain ⟨fd, F⟩ := T.fun_ j h
  exact ⟨_, fd, ok _ fd F, He.mkr_ok (T.c.fact i hi), He.glo_ok T.X T.G (T.c.fact i' hi'), F.binds hb⟩
section
variable {g : Gb} {c : Cz} {δ : Sl} {M : Mem} {Q : D → Mem → Prop} {pos : Pos}
theorem Tb.f_isinstance (T : Tb g) : g.mg "isinstance" = none := He.free_ok T.X T.G (T.c.fact 72 (f := .free "isinstance") rfl)
theorem Tb.f_int (T : Tb g) : g.mg "int" = none := He.free_ok T.X T.G (T.c.fact 73 (f := .free "int") rfl)
theorem Tb.f_bool (T : Tb g) : g.mg "bool" = none := He.free_ok T.X T.G (T.c.fact 74 (f := .free "bool") rfl)
theorem Tb.f_list (T : Tb g) : g.mg "list" = none := He.free_ok T.X T.G (T.c.fact 75 (f := .free "list") rfl)
theorem Tb.f_tuple (T : Tb g) : g.mg "tuple" = none := He.free_ok T.X T.G (T.c.fact 76 (f := .free "tuple") rfl)
theorem Tb.f_str (T : Tb g) : g.mg "str" = none := He.free_ok T.X T.G (T.c.fact 77 (f := .free "str") rfl)
theorem Tb.f_len (T : Tb g) : g.mg "len" = none := He.free_ok T.X T.G (T.c.fact 78 (f := .free "len") rfl)
theorem Tb.f_sum (T : Tb g) : g.mg "sum" = none := He.free_ok T.X T.G (T.c.fact 79 (f := .free "sum") rfl)
theorem Tb.f_range (T : Tb g) : g.mg "range" = none := He.free_ok T.X T.G (T.c.fact 80 (f := .free "range") rfl)
theorem Tb.f_zip (T : Tb g) : g.mg "zip" = none := He.free_ok T.X T.G (T.c.fact 81 (f := .free "zip") rfl)
theorem Tb.f_enumerate (T : Tb g) : g.mg "enumerate" = none := He.free_ok T.X T.G (T.c.fact 82 (f := .free "enumerate") rfl)
theorem Tb.f_reversed (T : Tb g) : g.mg "reversed" = none := He.free_ok T.X T.G (T.c.fact 83 (f := .free "reversed") rfl)
theorem Tb.f_any (T : Tb g) : g.mg "any" = none := He.free_ok T.X T.G (T.c.fact 84 (f := .free "any") rfl)
theorem Tb.f_all (T : Tb g) : g.mg "all" = none := He.free_ok T.X T.G (T.c.fact 85 (f := .free "all") rfl)
theorem Tb.f_abs (T : Tb g) : g.mg "abs" = none := He.free_ok T.X T.G (T.c.fact 86 (f := .free "abs") rfl)
theorem Tb.f_max (T : Tb g) : g.mg "max" = none := He.free_ok T.X T.G (T.c.fact 87 (f := .free "max") rfl)
theorem Tb.f_min (T : Tb g) : g.mg "min" = none := He.free_ok T.X T.G (T.c.fact 88 (f := .free "min") rfl)
theorem Tb.f_repr (T : Tb g) : g.mg "repr" = none := He.free_ok T.X T.G (T.c.fact 89 (f := .free "repr") rfl)
theorem Tb.f_super (T : Tb g) : g.mg "super" = none := He.free_ok T.X T.G (T.c.fact 90 (f := .free "super") rfl)
theorem Tb.f_KeyError (T : Tb g) : g.mg "KeyError" = none := He.free_ok T.X T.G (T.c.fact 91 (f := .free "KeyError") rfl)
theorem Tb.f_ValueError (T : Tb g) : g.mg "ValueError" = none := He.free_ok T.X T.G (T.c.fact 92 (f := .free "ValueError") rfl)
theorem Tb.x_MOST_HANDS (T : Tb g) (hg : gloB c.sc "MOST_HANDS" = true) (q : Q (.int 8) M) : EX g c (.Name "MOST_HANDS" pos) δ M Q := by
  obtain ⟨t, e⟩ := He.int_ok T.X T.G (T.c.fact 93 (f := .int "MOST_HANDS" 8) rfl)
  exact ex_glob (v := .int 8) (d := .int 8) hg e ⟨t, rfl⟩ (fun _ => rfl) q
theorem Tb.x_MOST_MARKS (T : Tb g) (hg : gloB c.sc "MOST_MARKS" = true) (q : Q (.int 60) M) : EX g c (.Name "MOST_MARKS" pos) δ M Q := by
  obtain ⟨t, e⟩ := He.int_ok T.X T.G (T.c.fact 94 (f := .int "MOST_MARKS" 60) rfl)
  exact ex_glob (v := .int 60) (d := .int 60) hg e ⟨t, rfl⟩ (fun _ => rfl) q
theorem Tb.x_MOST_STORY (T : Tb g) (hg : gloB c.sc "MOST_STORY" = true) (q : Q (.int 10000) M) : EX g c (.Name "MOST_STORY" pos) δ M Q := by
  obtain ⟨t, e⟩ := He.int_ok T.X T.G (T.c.fact 95 (f := .int "MOST_STORY" 10000) rfl)
  exact ex_glob (v := .int 10000) (d := .int 10000) hg e ⟨t, rfl⟩ (fun _ => rfl) q
theorem Tb.x_MOST_SIZE (T : Tb g) (hg : gloB c.sc "MOST_SIZE" = true) (q : Q (.int 1000000000) M) : EX g c (.Name "MOST_SIZE" pos) δ M Q := by
  obtain ⟨t, e⟩ := He.int_ok T.X T.G (T.c.fact 96 (f := .int "MOST_SIZE" 1000000000) rfl)
  exact ex_glob (v := .int 1000000000) (d := .int 1000000000) hg e ⟨t, rfl⟩ (fun _ => rfl) q
theorem Tb.x_MOST_CELLS (T : Tb g) (hg : gloB c.sc "MOST_CELLS" = true) (q : Q (.int 20) M) : EX g c (.Name "MOST_CELLS" pos) δ M Q := by
  obtain ⟨t, e⟩ := He.int_ok T.X T.G (T.c.fact 97 (f := .int "MOST_CELLS" 20) rfl)
  exact ex_glob (v := .int 20) (d := .int 20) hg e ⟨t, rfl⟩ (fun _ => rfl) q
theorem Tb.x_MOST_WORTH (T : Tb g) (hg : gloB c.sc "MOST_WORTH" = true) (q : Q (.int 1000000000) M) : EX g c (.Name "MOST_WORTH" pos) δ M Q := by
  obtain ⟨t, e⟩ := He.int_ok T.X T.G (T.c.fact 98 (f := .int "MOST_WORTH" 1000000000) rfl)
  exact ex_glob (v := .int 1000000000) (d := .int 1000000000) hg e ⟨t, rfl⟩ (fun _ => rfl) q
theorem Tb.x_MOST_FIGURES (T : Tb g) (hg : gloB c.sc "MOST_FIGURES" = true) (q : Q (.int 9) M) : EX g c (.Name "MOST_FIGURES" pos) δ M Q := by
  obtain ⟨t, e⟩ := He.int_ok T.X T.G (T.c.fact 99 (f := .int "MOST_FIGURES" 9) rfl)
  exact ex_glob (v := .int 9) (d := .int 9) hg e ⟨t, rfl⟩ (fun _ => rfl) q
theorem Tb.x_HEAD (T : Tb g) (hg : gloB c.sc "HEAD" = true) (q : Q (.str "hands ") M) : EX g c (.Name "HEAD" pos) δ M Q := by
  obtain ⟨t, e⟩ := He.str_ok T.X T.G (T.c.fact 100 (f := .str "HEAD" "hands ") rfl)
  exact ex_glob (v := .str "hands ") (d := .str "hands ") hg e ⟨t, rfl⟩ (fun _ => rfl) q
theorem Tb.x_NONE (T : Tb g) (hg : gloB c.sc "NONE" = true) (q : Q (.str "-") M) : EX g c (.Name "NONE" pos) δ M Q := by
  obtain ⟨t, e⟩ := He.str_ok T.X T.G (T.c.fact 101 (f := .str "NONE" "-") rfl)
  exact ex_glob (v := .str "-") (d := .str "-") hg e ⟨t, rfl⟩ (fun _ => rfl) q
theorem Tb.x_FIGURES (T : Tb g) (hg : gloB c.sc "FIGURES" = true) (q : Q (.str "0123456789") M) : EX g c (.Name "FIGURES" pos) δ M Q := by
  obtain ⟨t, e⟩ := He.str_ok T.X T.G (T.c.fact 102 (f := .str "FIGURES" "0123456789") rfl)
  exact ex_glob (v := .str "0123456789") (d := .str "0123456789") hg e ⟨t, rfl⟩ (fun _ => rfl) q
theorem Tb.x_CELLS (T : Tb g) (hg : gloB c.sc "CELLS" = true) (q : Q (.str "cells ") M) : EX g c (.Name "CELLS" pos) δ M Q := by
  obtain ⟨t, e⟩ := He.str_ok T.X T.G (T.c.fact 103 (f := .str "CELLS" "cells ") rfl)
  exact ex_glob (v := .str "cells ") (d := .str "cells ") hg e ⟨t, rfl⟩ (fun _ => rfl) q
theorem Tb.cls_Hands (T : Tb g) : Cls g.K (ga g "Hands") := He.cls_ok (T.c.fact 104 (f := .cls "Hands") rfl)
theorem Tb.no_Hands_marks (T : Tb g) : NoAttr g.K (ga g "Hands") "marks" := He.noat_ok (T.c.fact 106 (f := .noat "Hands" "marks") rfl)
theorem Tb.no_Hands_many (T : Tb g) : NoAttr g.K (ga g "Hands") "many" := He.noat_ok (T.c.fact 107 (f := .noat "Hands" "many") rfl)
theorem Tb.cls_Dial (T : Tb g) : Cls g.K (ga g "Dial") := He.cls_ok (T.c.fact 108 (f := .cls "Dial") rfl)
theorem Tb.no_Dial_hands (T : Tb g) : NoAttr g.K (ga g "Dial") "hands" := He.noat_ok (T.c.fact 110 (f := .noat "Dial" "hands") rfl)
theorem Tb.no_Dial_size (T : Tb g) : NoAttr g.K (ga g "Dial") "size" := He.noat_ok (T.c.fact 111 (f := .noat "Dial" "size") rfl)
theorem Tb.no_Dial_arcs (T : Tb g) : NoAttr g.K (ga g "Dial") "arcs" := He.noat_ok (T.c.fact 112 (f := .noat "Dial" "arcs") rfl)
theorem Tb.cls_Store (T : Tb g) : Cls g.K (ga g "Store") := He.cls_ok (T.c.fact 113 (f := .cls "Store") rfl)
theorem Tb.no_Store_dial (T : Tb g) : NoAttr g.K (ga g "Store") "dial" := He.noat_ok (T.c.fact 115 (f := .noat "Store" "dial") rfl)
theorem Tb.no_Store_hands (T : Tb g) : NoAttr g.K (ga g "Store") "hands" := He.noat_ok (T.c.fact 116 (f := .noat "Store" "hands") rfl)
theorem Tb.no_Store_cells (T : Tb g) : NoAttr g.K (ga g "Store") "cells" := He.noat_ok (T.c.fact 117 (f := .noat "Store" "cells") rfl)
theorem Tb.no_Store_done (T : Tb g) : NoAttr g.K (ga g "Store") "done" := He.noat_ok (T.c.fact 118 (f := .noat "Store" "done") rfl)
theorem Tb.no_Store_undone (T : Tb g) : NoAttr g.K (ga g "Store") "undone" := He.noat_ok (T.c.fact 119 (f := .noat "Store" "undone") rfl)
theorem Tb.cls_Desk (T : Tb g) : Cls g.K (ga g "Desk") := He.cls_ok (T.c.fact 126 (f := .cls "Desk") rfl)
theorem Tb.no_Desk_store (T : Tb g) : NoAttr g.K (ga g "Desk") "store" := He.noat_ok (T.c.fact 128 (f := .noat "Desk" "store") rfl)
end
theorem Tb.k_is_integer {g : Gb} (T : Tb g) {k : Nat} {sp : DSp} (ok : ∀ f fd, Fun g.K "is_integer" "is_integer" (topS 12) f fd → Fok g k f fd ["value"] sp) : Kn g "is_integer" k ["value"] sp := T.kn 0 0 rfl rfl (fun _ _ _ _ _ _ us hl => match us, hl with | [_], _ => rfl) ok
theorem Tb.k_is_number {g : Gb} (T : Tb g) {k : Nat} {sp : DSp} (ok : ∀ f fd, Fun g.K "is_number" "is_number" (topS 13) f fd → Fok g k f fd ["value"] sp) : Kn g "is_number" k ["value"] sp := T.kn 1 1 rfl rfl (fun _ _ _ _ _ _ us hl => match us, hl with | [_], _ => rfl) ok
theorem Tb.k_is_below {g : Gb} (T : Tb g) {k : Nat} {sp : DSp} (ok : ∀ f fd, Fun g.K "is_below" "is_below" (topS 14) f fd → Fok g k f fd ["value", "most"] sp) : Kn g "is_below" k ["value", "most"] sp := T.kn 2 2 rfl rfl (fun _ _ _ _ _ _ us hl => match us, hl with | [_, _], _ => rfl) ok
theorem Tb.k_is_within {g : Gb} (T : Tb g) {k : Nat} {sp : DSp} (ok : ∀ f fd, Fun g.K "is_within" "is_within" (topS 15) f fd → Fok g k f fd ["value", "least", "most"] sp) : Kn g "is_within" k ["value", "least", "most"] sp := T.kn 3 3 rfl rfl (fun _ _ _ _ _ _ us hl => match us, hl with | [_, _, _], _ => rfl) ok
theorem Tb.k_is_sequence {g : Gb} (T : Tb g) {k : Nat} {sp : DSp} (ok : ∀ f fd, Fun g.K "is_sequence" "is_sequence" (topS 16) f fd → Fok g k f fd ["value"] sp) : Kn g "is_sequence" k ["value"] sp := T.kn 4 4 rfl rfl (fun _ _ _ _ _ _ us hl => match us, hl with | [_], _ => rfl) ok
theorem Tb.k_is_text {g : Gb} (T : Tb g) {k : Nat} {sp : DSp} (ok : ∀ f fd, Fun g.K "is_text" "is_text" (topS 17) f fd → Fok g k f fd ["value"] sp) : Kn g "is_text" k ["value"] sp := T.kn 5 5 rfl rfl (fun _ _ _ _ _ _ us hl => match us, hl with | [_], _ => rfl) ok
theorem Tb.k_common_divisor {g : Gb} (T : Tb g) {k : Nat} {sp : DSp} (ok : ∀ f fd, Fun g.K "common_divisor" "common_divisor" (topS 18) f fd → Fok g k f fd ["one", "other"] sp) : Kn g "common_divisor" k ["one", "other"] sp := T.kn 6 6 rfl rfl (fun _ _ _ _ _ _ us hl => match us, hl with | [_, _], _ => rfl) ok
theorem Tb.k_common_multiple {g : Gb} (T : Tb g) {k : Nat} {sp : DSp} (ok : ∀ f fd, Fun g.K "common_multiple" "common_multiple" (topS 19) f fd → Fok g k f fd ["one", "other"] sp) : Kn g "common_multiple" k ["one", "other"] sp := T.kn 7 7 rfl rfl (fun _ _ _ _ _ _ us hl => match us, hl with | [_, _], _ => rfl) ok
theorem Tb.k_least_terms {g : Gb} (T : Tb g) {k : Nat} {sp : DSp} (ok : ∀ f fd, Fun g.K "least_terms" "least_terms" (topS 20) f fd → Fok g k f fd ["top", "bottom"] sp) : Kn g "least_terms" k ["top", "bottom"] sp := T.kn 8 8 rfl rfl (fun _ _ _ _ _ _ us hl => match us, hl with | [_, _], _ => rfl) ok
theorem Tb.k_check_marks {g : Gb} (T : Tb g) {k : Nat} {sp : DSp} (ok : ∀ f fd, Fun g.K "check_marks" "check_marks" (topS 22) f fd → Fok g k f fd ["value"] sp) : Kn g "check_marks" k ["value"] sp := T.kn 9 9 rfl rfl (fun _ _ _ _ _ _ us hl => match us, hl with | [_], _ => rfl) ok
theorem Tb.k_Hands___init__ {g : Gb} (T : Tb g) {k : Nat} {sp : DSp} (ok : ∀ f fd, Fun g.K "__init__" "Hands.__init__" (inClass (topS 23) 0) f fd → Fok g k f fd ["self", "marks"] sp) : Kc g "Hands" (ga g "Hands") k ["self", "marks"] sp := T.kc 10 105 68 rfl rfl rfl (fun _ _ _ _ _ _ us hl => match us, hl with | [_, _], _ => rfl) ok
theorem Tb.k_sum_of_parts {g : Gb} (T : Tb g) {k : Nat} {sp : DSp} (ok : ∀ f fd, Fun g.K "sum_of_parts" "sum_of_parts" (topS 24) f fd → Fok g k f fd ["marks"] sp) : Kn g "sum_of_parts" k ["marks"] sp := T.kn 11 10 rfl rfl (fun _ _ _ _ _ _ us hl => match us, hl with | [_], _ => rfl) ok
theorem Tb.k_share {g : Gb} (T : Tb g) {k : Nat} {sp : DSp} (ok : ∀ f fd, Fun g.K "share" "share" (topS 25) f fd → Fok g k f fd ["hands"] sp) : Kn g "share" k ["hands"] sp := T.kn 12 11 rfl rfl (fun _ _ _ _ _ _ us hl => match us, hl with | [_], _ => rfl) ok
theorem Tb.k_need_telling {g : Gb} (T : Tb g) {k : Nat} {sp : DSp} (ok : ∀ f fd, Fun g.K "need_telling" "need_telling" (topS 26) f fd → Fok g k f fd ["hands"] sp) : Kn g "need_telling" k ["hands"] sp := T.kn 13 12 rfl rfl (fun _ _ _ _ _ _ us hl => match us, hl with | [_], _ => rfl) ok
theorem Tb.k_need_hand {g : Gb} (T : Tb g) {k : Nat} {sp : DSp} (ok : ∀ f fd, Fun g.K "need_hand" "need_hand" (topS 27) f fd → Fok g k f fd ["hands", "hand"] sp) : Kn g "need_hand" k ["hands", "hand"] sp := T.kn 14 13 rfl rfl (fun _ _ _ _ _ _ us hl => match us, hl with | [_, _], _ => rfl) ok
theorem Tb.k_laid_out {g : Gb} (T : Tb g) {k : Nat} {sp : DSp} (ok : ∀ f fd, Fun g.K "laid_out" "laid_out" (topS 30) f fd → Fok g k f fd ["sizes"] sp) : Kn g "laid_out" k ["sizes"] sp := T.kn 15 14 rfl rfl (fun _ _ _ _ _ _ us hl => match us, hl with | [_], _ => rfl) ok
theorem Tb.k_stretch_with {g : Gb} (T : Tb g) {k : Nat} {sp : DSp} (ok : ∀ f fd, Fun g.K "stretch_with" "stretch_with" (topS 31) f fd → Fok g k f fd ["stretches", "place"] sp) : Kn g "stretch_with" k ["stretches", "place"] sp := T.kn 16 15 rfl rfl (fun _ _ _ _ _ _ us hl => match us, hl with | [_, _], _ => rfl) ok
theorem Tb.k_Dial___init__ {g : Gb} (T : Tb g) {k : Nat} {sp : DSp} (ok : ∀ f fd, Fun g.K "__init__" "Dial.__init__" (inClass (topS 32) 0) f fd → Fok g k f fd ["self", "hands"] sp) : Kc g "Dial" (ga g "Dial") k ["self", "hands"] sp := T.kc 17 109 69 rfl rfl rfl (fun _ _ _ _ _ _ us hl => match us, hl with | [_, _], _ => rfl) ok
theorem Tb.k_place_of {g : Gb} (T : Tb g) {k : Nat} {sp : DSp} (ok : ∀ f fd, Fun g.K "place_of" "place_of" (topS 33) f fd → Fok g k f fd ["dial", "last"] sp) : Kn g "place_of" k ["dial", "last"] sp := T.kn 18 16 rfl rfl (fun _ _ _ _ _ _ us hl => match us, hl with | [_, _], _ => rfl) ok
theorem Tb.k_turned_mark {g : Gb} (T : Tb g) {k : Nat} {sp : DSp} (ok : ∀ f fd, Fun g.K "turned_mark" "turned_mark" (topS 34) f fd → Fok g k f fd ["dial", "last", "hand"] sp) : Kn g "turned_mark" k ["dial", "last", "hand"] sp := T.kn 19 17 rfl rfl (fun _ _ _ _ _ _ us hl => match us, hl with | [_, _, _], _ => rfl) ok
theorem Tb.k_acted {g : Gb} (T : Tb g) {k : Nat} {sp : DSp} (ok : ∀ f fd, Fun g.K "acted" "acted" (topS 35) f fd → Fok g k f fd ["dial", "last", "hand"] sp) : Kn g "acted" k ["dial", "last", "hand"] sp := T.kn 20 18 rfl rfl (fun _ _ _ _ _ _ us hl => match us, hl with | [_, _, _], _ => rfl) ok
theorem Tb.k_marks_at {g : Gb} (T : Tb g) {k : Nat} {sp : DSp} (ok : ∀ f fd, Fun g.K "marks_at" "marks_at" (topS 37) f fd → Fok g k f fd ["logs", "counts", "ahead"] sp) : Kn g "marks_at" k ["logs", "counts", "ahead"] sp := T.kn 21 19 rfl rfl (fun _ _ _ _ _ _ us hl => match us, hl with | [_, _, _], _ => rfl) ok
theorem Tb.k_struck_back {g : Gb} (T : Tb g) {k : Nat} {sp : DSp} (ok : ∀ f fd, Fun g.K "struck_back" "struck_back" (topS 38) f fd → Fok g k f fd ["dial", "logs", "ahead"] sp) : Kn g "struck_back" k ["dial", "logs", "ahead"] sp := T.kn 22 20 rfl rfl (fun _ _ _ _ _ _ us hl => match us, hl with | [_, _, _], _ => rfl) ok
theorem Tb.k_check_cells {g : Gb} (T : Tb g) {k : Nat} {sp : DSp} (ok : ∀ f fd, Fun g.K "check_cells" "check_cells" (topS 42) f fd → Fok g k f fd ["value"] sp) : Kn g "check_cells" k ["value"] sp := T.kn 23 21 rfl rfl (fun _ _ _ _ _ _ us hl => match us, hl with | [_], _ => rfl) ok
theorem Tb.k_with_number {g : Gb} (T : Tb g) {k : Nat} {sp : DSp} (ok : ∀ f fd, Fun g.K "with_number" "with_number" (topS 43) f fd → Fok g k f fd ["cells", "cell", "number"] sp) : Kn g "with_number" k ["cells", "cell", "number"] sp := T.kn 24 22 rfl rfl (fun _ _ _ _ _ _ us hl => match us, hl with | [_, _, _], _ => rfl) ok
theorem Tb.k_marks_of {g : Gb} (T : Tb g) {k : Nat} {sp : DSp} (ok : ∀ f fd, Fun g.K "marks_of" "marks_of" (topS 44) f fd → Fok g k f fd ["logs"] sp) : Kn g "marks_of" k ["logs"] sp := T.kn 25 23 rfl rfl (fun _ _ _ _ _ _ us hl => match us, hl with | [_], _ => rfl) ok
theorem Tb.k_last_entries {g : Gb} (T : Tb g) {k : Nat} {sp : DSp} (ok : ∀ f fd, Fun g.K "last_entries" "last_entries" (topS 45) f fd → Fok g k f fd ["logs"] sp) : Kn g "last_entries" k ["logs"] sp := T.kn 26 24 rfl rfl (fun _ _ _ _ _ _ us hl => match us, hl with | [_], _ => rfl) ok
theorem Tb.k_hand_behind {g : Gb} (T : Tb g) {k : Nat} {sp : DSp} (ok : ∀ f fd, Fun g.K "hand_behind" "hand_behind" (topS 46) f fd → Fok g k f fd ["dial", "logs"] sp) : Kn g "hand_behind" k ["dial", "logs"] sp := T.kn 27 25 rfl rfl (fun _ _ _ _ _ _ us hl => match us, hl with | [_, _], _ => rfl) ok
theorem Tb.k_entered {g : Gb} (T : Tb g) {k : Nat} {sp : DSp} (ok : ∀ f fd, Fun g.K "entered" "entered" (topS 47) f fd → Fok g k f fd ["dial", "logs", "hand", "told"] sp) : Kn g "entered" k ["dial", "logs", "hand", "told"] sp := T.kn 28 26 rfl rfl (fun _ _ _ _ _ _ us hl => match us, hl with | [_, _, _, _], _ => rfl) ok
theorem Tb.k_taken {g : Gb} (T : Tb g) {k : Nat} {sp : DSp} (ok : ∀ f fd, Fun g.K "taken" "taken" (topS 48) f fd → Fok g k f fd ["logs", "hand"] sp) : Kn g "taken" k ["logs", "hand"] sp := T.kn 29 27 rfl rfl (fun _ _ _ _ _ _ us hl => match us, hl with | [_, _], _ => rfl) ok
theorem Tb.k_Store___init__ {g : Gb} (T : Tb g) {k : Nat} {sp : DSp} (ok : ∀ f fd, Fun g.K "__init__" "Store.__init__" (inClass (topS 49) 0) f fd → Fok g k f fd ["self", "hands", "cells"] sp) : Kc g "Store" (ga g "Store") k ["self", "hands", "cells"] sp := T.kc 30 114 70 rfl rfl rfl (fun _ _ _ _ _ _ us hl => match us, hl with | [_, _, _], _ => rfl) ok
theorem Tb.k_Store_put {g : Gb} (T : Tb g) {k : Nat} {sp : DSp} (ok : ∀ f fd, Fun g.K "put" "Store.put" (inClass (topS 49) 1) f fd → Fok g k f fd ["self", "hand", "cell", "number"] sp) : Km g (ga g "Store") "put" k ["self", "hand", "cell", "number"] sp := T.km 31 120 rfl rfl (fun _ _ _ _ _ _ us hl => match us, hl with | [_, _, _, _], _ => rfl) ok
theorem Tb.k_Store_who_undoes {g : Gb} (T : Tb g) {k : Nat} {sp : DSp} (ok : ∀ f fd, Fun g.K "who_undoes" "Store.who_undoes" (inClass (topS 49) 2) f fd → Fok g k f fd ["self"] sp) : Km g (ga g "Store") "who_undoes" k ["self"] sp := T.km 32 121 rfl rfl (fun _ _ _ _ _ _ us hl => match us, hl with | [_], _ => rfl) ok
theorem Tb.k_Store_who_redoes {g : Gb} (T : Tb g) {k : Nat} {sp : DSp} (ok : ∀ f fd, Fun g.K "who_redoes" "Store.who_redoes" (inClass (topS 49) 3) f fd → Fok g k f fd ["self"] sp) : Km g (ga g "Store") "who_redoes" k ["self"] sp := T.km 33 122 rfl rfl (fun _ _ _ _ _ _ us hl => match us, hl with | [_], _ => rfl) ok
theorem Tb.k_Store_undo_last {g : Gb} (T : Tb g) {k : Nat} {sp : DSp} (ok : ∀ f fd, Fun g.K "undo_last" "Store.undo_last" (inClass (topS 49) 4) f fd → Fok g k f fd ["self"] sp) : Km g (ga g "Store") "undo_last" k ["self"] sp := T.km 34 123 rfl rfl (fun _ _ _ _ _ _ us hl => match us, hl with | [_], _ => rfl) ok
theorem Tb.k_Store_redo_next {g : Gb} (T : Tb g) {k : Nat} {sp : DSp} (ok : ∀ f fd, Fun g.K "redo_next" "Store.redo_next" (inClass (topS 49) 5) f fd → Fok g k f fd ["self"] sp) : Km g (ga g "Store") "redo_next" k ["self"] sp := T.km 35 124 rfl rfl (fun _ _ _ _ _ _ us hl => match us, hl with | [_], _ => rfl) ok
theorem Tb.k_Store_sheet {g : Gb} (T : Tb g) {k : Nat} {sp : DSp} (ok : ∀ f fd, Fun g.K "sheet" "Store.sheet" (inClass (topS 49) 6) f fd → Fok g k f fd ["self"] sp) : Km g (ga g "Store") "sheet" k ["self"] sp := T.km 36 125 rfl rfl (fun _ _ _ _ _ _ us hl => match us, hl with | [_], _ => rfl) ok
theorem Tb.k_is_entry {g : Gb} (T : Tb g) {k : Nat} {sp : DSp} (ok : ∀ f fd, Fun g.K "is_entry" "is_entry" (topS 50) f fd → Fok g k f fd ["value", "marks", "many"] sp) : Kn g "is_entry" k ["value", "marks", "many"] sp := T.kn 37 28 rfl rfl (fun _ _ _ _ _ _ us hl => match us, hl with | [_, _, _], _ => rfl) ok
theorem Tb.k_entry_logs {g : Gb} (T : Tb g) {k : Nat} {sp : DSp} (ok : ∀ f fd, Fun g.K "entry_logs" "entry_logs" (topS 51) f fd → Fok g k f fd ["hands", "value", "many"] sp) : Kn g "entry_logs" k ["hands", "value", "many"] sp := T.kn 38 29 rfl rfl (fun _ _ _ _ _ _ us hl => match us, hl with | [_, _, _], _ => rfl) ok
theorem Tb.k_check_sheet {g : Gb} (T : Tb g) {k : Nat} {sp : DSp} (ok : ∀ f fd, Fun g.K "check_sheet" "check_sheet" (topS 52) f fd → Fok g k f fd ["hands", "value"] sp) : Kn g "check_sheet" k ["hands", "value"] sp := T.kn 39 30 rfl rfl (fun _ _ _ _ _ _ us hl => match us, hl with | [_, _], _ => rfl) ok
theorem Tb.k_walked {g : Gb} (T : Tb g) {k : Nat} {sp : DSp} (ok : ∀ f fd, Fun g.K "walked" "walked" (topS 53) f fd → Fok g k f fd ["dial", "logs", "cells", "now"] sp) : Kn g "walked" k ["dial", "logs", "cells", "now"] sp := T.kn 40 31 rfl rfl (fun _ _ _ _ _ _ us hl => match us, hl with | [_, _, _, _], _ => rfl) ok
theorem Tb.k_ways_of {g : Gb} (T : Tb g) {k : Nat} {sp : DSp} (ok : ∀ f fd, Fun g.K "ways_of" "ways_of" (topS 54) f fd → Fok g k f fd ["dial", "sheet"] sp) : Kn g "ways_of" k ["dial", "sheet"] sp := T.kn 41 32 rfl rfl (fun _ _ _ _ _ _ us hl => match us, hl with | [_, _], _ => rfl) ok
theorem Tb.k_deeds_of {g : Gb} (T : Tb g) {k : Nat} {sp : DSp} (ok : ∀ f fd, Fun g.K "deeds_of" "deeds_of" (topS 55) f fd → Fok g k f fd ["hands", "sheet"] sp) : Kn g "deeds_of" k ["hands", "sheet"] sp := T.kn 42 33 rfl rfl (fun _ _ _ _ _ _ us hl => match us, hl with | [_, _], _ => rfl) ok
theorem Tb.k_store_of {g : Gb} (T : Tb g) {k : Nat} {sp : DSp} (ok : ∀ f fd, Fun g.K "store_of" "store_of" (topS 56) f fd → Fok g k f fd ["hands", "sheet"] sp) : Kn g "store_of" k ["hands", "sheet"] sp := T.kn 43 34 rfl rfl (fun _ _ _ _ _ _ us hl => match us, hl with | [_, _], _ => rfl) ok
theorem Tb.k_numbers_text {g : Gb} (T : Tb g) {k : Nat} {sp : DSp} (ok : ∀ f fd, Fun g.K "numbers_text" "numbers_text" (topS 60) f fd → Fok g k f fd ["numbers"] sp) : Kn g "numbers_text" k ["numbers"] sp := T.kn 44 35 rfl rfl (fun _ _ _ _ _ _ us hl => match us, hl with | [_], _ => rfl) ok
theorem Tb.k_read_number {g : Gb} (T : Tb g) {k : Nat} {sp : DSp} (ok : ∀ f fd, Fun g.K "read_number" "read_number" (topS 61) f fd → Fok g k f fd ["word", "most"] sp) : Kn g "read_number" k ["word", "most"] sp := T.kn 45 36 rfl rfl (fun _ _ _ _ _ _ us hl => match us, hl with | [_, _], _ => rfl) ok
theorem Tb.k_read_hands {g : Gb} (T : Tb g) {k : Nat} {sp : DSp} (ok : ∀ f fd, Fun g.K "read_hands" "read_hands" (topS 62) f fd → Fok g k f fd ["text"] sp) : Kn g "read_hands" k ["text"] sp := T.kn 46 37 rfl rfl (fun _ _ _ _ _ _ us hl => match us, hl with | [_], _ => rfl) ok
theorem Tb.k_told_number {g : Gb} (T : Tb g) {k : Nat} {sp : DSp} (ok : ∀ f fd, Fun g.K "told_number" "told_number" (topS 68) f fd → Fok g k f fd ["word"] sp) : Kn g "told_number" k ["word"] sp := T.kn 47 38 rfl rfl (fun _ _ _ _ _ _ us hl => match us, hl with | [_], _ => rfl) ok
theorem Tb.k_rows_text {g : Gb} (T : Tb g) {k : Nat} {sp : DSp} (ok : ∀ f fd, Fun g.K "rows_text" "rows_text" (topS 69) f fd → Fok g k f fd ["rows"] sp) : Kn g "rows_text" k ["rows"] sp := T.kn 48 39 rfl rfl (fun _ _ _ _ _ _ us hl => match us, hl with | [_], _ => rfl) ok
theorem Tb.k_hand_text {g : Gb} (T : Tb g) {k : Nat} {sp : DSp} (ok : ∀ f fd, Fun g.K "hand_text" "hand_text" (topS 70) f fd → Fok g k f fd ["hand"] sp) : Kn g "hand_text" k ["hand"] sp := T.kn 49 40 rfl rfl (fun _ _ _ _ _ _ us hl => match us, hl with | [_], _ => rfl) ok
theorem Tb.k_read_store {g : Gb} (T : Tb g) {k : Nat} {sp : DSp} (ok : ∀ f fd, Fun g.K "read_store" "read_store" (topS 71) f fd → Fok g k f fd ["text"] sp) : Kn g "read_store" k ["text"] sp := T.kn 50 41 rfl rfl (fun _ _ _ _ _ _ us hl => match us, hl with | [_], _ => rfl) ok
theorem Tb.k_Desk___init__ {g : Gb} (T : Tb g) {k : Nat} {sp : DSp} (ok : ∀ f fd, Fun g.K "__init__" "Desk.__init__" (inClass (topS 72) 0) f fd → Fok g k f fd ["self", "text"] sp) : Kc g "Desk" (ga g "Desk") k ["self", "text"] sp := T.kc 51 127 71 rfl rfl rfl (fun _ _ _ _ _ _ us hl => match us, hl with | [_, _], _ => rfl) ok
theorem Tb.k_Desk_say_plain {g : Gb} (T : Tb g) {k : Nat} {sp : DSp} (ok : ∀ f fd, Fun g.K "say_plain" "Desk.say_plain" (inClass (topS 72) 1) f fd → Fok g k f fd ["self", "word"] sp) : Km g (ga g "Desk") "say_plain" k ["self", "word"] sp := T.km 52 129 rfl rfl (fun _ _ _ _ _ _ us hl => match us, hl with | [_, _], _ => rfl) ok
theorem Tb.k_Desk_say_told {g : Gb} (T : Tb g) {k : Nat} {sp : DSp} (ok : ∀ f fd, Fun g.K "say_told" "Desk.say_told" (inClass (topS 72) 2) f fd → Fok g k f fd ["self", "word", "numbers"] sp) : Km g (ga g "Desk") "say_told" k ["self", "word", "numbers"] sp := T.km 53 130 rfl rfl (fun _ _ _ _ _ _ us hl => match us, hl with | [_, _, _], _ => rfl) ok
theorem Tb.k_Desk_say {g : Gb} (T : Tb g) {k : Nat} {sp : DSp} (ok : ∀ f fd, Fun g.K "say" "Desk.say" (inClass (topS 72) 3) f fd → Fok g k f fd ["self", "line"] sp) : Km g (ga g "Desk") "say" k ["self", "line"] sp := T.km 54 131 rfl rfl (fun _ _ _ _ _ _ us hl => match us, hl with | [_, _], _ => rfl) ok
theorem Tb.k__law_box {g : Gb} (T : Tb g) {k : Nat} {sp : DSp} (ok : ∀ f fd, Fun g.K "_law_box" "_law_box" (topS 74) f fd → Fok g k f fd ["_law_script", "_law_k"] sp) : Kn g "_law_box" k ["_law_script", "_law_k"] sp := T.kn 55 42 rfl rfl (fun _ _ _ _ _ _ us hl => match us, hl with | [_, _], _ => rfl) ok
theorem Tb.k__law_take {g : Gb} (T : Tb g) {k : Nat} {sp : DSp} (ok : ∀ f fd, Fun g.K "_law_take" "_law_take" (topS 75) f fd → Fok g k f fd ["_law_box_here", "_law_many"] sp) : Kn g "_law_take" k ["_law_box_here", "_law_many"] sp := T.kn 56 43 rfl rfl (fun _ _ _ _ _ _ us hl => match us, hl with | [_, _], _ => rfl) ok
theorem Tb.k__law_pick {g : Gb} (T : Tb g) {k : Nat} {sp : DSp} (ok : ∀ f fd, Fun g.K "_law_pick" "_law_pick" (topS 76) f fd → Fok g k f fd ["_law_box_here", "_law_some"] sp) : Kn g "_law_pick" k ["_law_box_here", "_law_some"] sp := T.kn 57 44 rfl rfl (fun _ _ _ _ _ _ us hl => match us, hl with | [_, _], _ => rfl) ok
theorem Tb.k__law_mixed {g : Gb} (T : Tb g) {k : Nat} {sp : DSp} (ok : ∀ f fd, Fun g.K "_law_mixed" "_law_mixed" (topS 77) f fd → Fok g k f fd ["_law_box_here", "_law_some"] sp) : Kn g "_law_mixed" k ["_law_box_here", "_law_some"] sp := T.kn 58 45 rfl rfl (fun _ _ _ _ _ _ us hl => match us, hl with | [_, _], _ => rfl) ok
theorem Tb.k__law_marks {g : Gb} (T : Tb g) {k : Nat} {sp : DSp} (ok : ∀ f fd, Fun g.K "_law_marks" "_law_marks" (topS 78) f fd → Fok g k f fd ["_law_box_here"] sp) : Kn g "_law_marks" k ["_law_box_here"] sp := T.kn 59 46 rfl rfl (fun _ _ _ _ _ _ us hl => match us, hl with | [_], _ => rfl) ok
theorem Tb.k__law_size {g : Gb} (T : Tb g) {k : Nat} {sp : DSp} (ok : ∀ f fd, Fun g.K "_law_size" "_law_size" (topS 79) f fd → Fok g k f fd ["_law_marks_here"] sp) : Kn g "_law_size" k ["_law_marks_here"] sp := T.kn 60 47 rfl rfl (fun _ _ _ _ _ _ us hl => match us, hl with | [_], _ => rfl) ok
theorem Tb.k__law_heads {g : Gb} (T : Tb g) {k : Nat} {sp : DSp} (ok : ∀ f fd, Fun g.K "_law_heads" "_law_heads" (topS 80) f fd → Fok g k f fd ["_law_logs"] sp) : Kn g "_law_heads" k ["_law_logs"] sp := T.kn 61 48 rfl rfl (fun _ _ _ _ _ _ us hl => match us, hl with | [_], _ => rfl) ok
theorem Tb.k__law_entered {g : Gb} (T : Tb g) {k : Nat} {sp : DSp} (ok : ∀ f fd, Fun g.K "_law_entered" "_law_entered" (topS 81) f fd → Fok g k f fd ["_law_marks_here", "_law_size_here", "_law_logs", "_law_hand_here", "_law_told"] sp) : Kn g "_law_entered" k ["_law_marks_here", "_law_size_here", "_law_logs", "_law_hand_here", "_law_told"] sp := T.kn 62 49 rfl rfl (fun _ _ _ _ _ _ us hl => match us, hl with | [_, _, _, _, _], _ => rfl) ok
theorem Tb.k__law_led {g : Gb} (T : Tb g) {k : Nat} {sp : DSp} (ok : ∀ f fd, Fun g.K "_law_led" "_law_led" (topS 82) f fd → Fok g k f fd ["_law_marks_here", "_law_size_here", "_law_first", "_law_done", "_law_left"] sp) : Kn g "_law_led" k ["_law_marks_here", "_law_size_here", "_law_first", "_law_done", "_law_left"] sp := T.kn 63 50 rfl rfl (fun _ _ _ _ _ _ us hl => match us, hl with | [_, _, _, _, _], _ => rfl) ok
theorem Tb.k__law_row {g : Gb} (T : Tb g) {k : Nat} {sp : DSp} (ok : ∀ f fd, Fun g.K "_law_row" "_law_row" (topS 83) f fd → Fok g k f fd ["_law_row_here"] sp) : Kn g "_law_row" k ["_law_row_here"] sp := T.kn 64 51 rfl rfl (fun _ _ _ _ _ _ us hl => match us, hl with | [_], _ => rfl) ok
theorem Tb.k__law_rows {g : Gb} (T : Tb g) {k : Nat} {sp : DSp} (ok : ∀ f fd, Fun g.K "_law_rows" "_law_rows" (topS 84) f fd → Fok g k f fd ["_law_rows_here"] sp) : Kn g "_law_rows" k ["_law_rows_here"] sp := T.kn 65 52 rfl rfl (fun _ _ _ _ _ _ us hl => match us, hl with | [_], _ => rfl) ok
theorem Tb.k__law_hand {g : Gb} (T : Tb g) {k : Nat} {sp : DSp} (ok : ∀ f fd, Fun g.K "_law_hand" "_law_hand" (topS 85) f fd → Fok g k f fd ["_law_hand_here"] sp) : Kn g "_law_hand" k ["_law_hand_here"] sp := T.kn 66 53 rfl rfl (fun _ _ _ _ _ _ us hl => match us, hl with | [_], _ => rfl) ok
theorem Tb.k__law_fault {g : Gb} (T : Tb g) {k : Nat} {sp : DSp} (ok : ∀ f fd, Fun g.K "_law_fault" "_law_fault" (topS 86) f fd → Fok g k f fd ["_law_ask"] sp) : Kn g "_law_fault" k ["_law_ask"] sp := T.kn 67 54 rfl rfl (fun _ _ _ _ _ _ us hl => match us, hl with | [_], _ => rfl) ok
theorem Tb.k__law_cells {g : Gb} (T : Tb g) {k : Nat} {sp : DSp} (ok : ∀ f fd, Fun g.K "_law_cells" "_law_cells" (topS 87) f fd → Fok g k f fd ["_law_first", "_law_done"] sp) : Kn g "_law_cells" k ["_law_first", "_law_done"] sp := T.kn 68 55 rfl rfl (fun _ _ _ _ _ _ us hl => match us, hl with | [_, _], _ => rfl) ok
theorem Tb.k__law_asked_right {g : Gb} (T : Tb g) {k : Nat} {sp : DSp} (ok : ∀ f fd, Fun g.K "_law_asked_right" "_law_asked_right" (topS 88) f fd → Fok g k f fd ["_law_box_here", "_law_desk", "_law_marks_here", "_law_first", "_law_done", "_law_left"] sp) : Kn g "_law_asked_right" k ["_law_box_here", "_law_desk", "_law_marks_here", "_law_first", "_law_done", "_law_left"] sp := T.kn 69 56 rfl rfl (fun _ _ _ _ _ _ us hl => match us, hl with | [_, _, _, _, _, _], _ => rfl) ok
theorem Tb.k__law_moved {g : Gb} (T : Tb g) {k : Nat} {sp : DSp} (ok : ∀ f fd, Fun g.K "_law_moved" "_law_moved" (topS 89) f fd → Fok g k f fd ["_law_box_here", "_law_desk", "_law_marks_here", "_law_first", "_law_done", "_law_left", "_law_cells_here"] sp) : Kn g "_law_moved" k ["_law_box_here", "_law_desk", "_law_marks_here", "_law_first", "_law_done", "_law_left", "_law_cells_here"] sp := T.kn 70 57 rfl rfl (fun _ _ _ _ _ _ us hl => match us, hl with | [_, _, _, _, _, _, _], _ => rfl) ok
theorem Tb.k__law_bad_lines_right {g : Gb} (T : Tb g) {k : Nat} {sp : DSp} (ok : ∀ f fd, Fun g.K "_law_bad_lines_right" "_law_bad_lines_right" (topS 90) f fd → Fok g k f fd ["_law_box_here", "_law_desk", "_law_many", "_law_cells_here"] sp) : Kn g "_law_bad_lines_right" k ["_law_box_here", "_law_desk", "_law_many", "_law_cells_here"] sp := T.kn 71 58 rfl rfl (fun _ _ _ _ _ _ us hl => match us, hl with | [_, _, _, _], _ => rfl) ok
theorem Tb.k__law_texts_right {g : Gb} (T : Tb g) {k : Nat} {sp : DSp} (ok : ∀ f fd, Fun g.K "_law_texts_right" "_law_texts_right" (topS 91) f fd → Fok g k f fd ["_law_box_here", "_law_marks_here"] sp) : Kn g "_law_texts_right" k ["_law_box_here", "_law_marks_here"] sp := T.kn 72 59 rfl rfl (fun _ _ _ _ _ _ us hl => match us, hl with | [_, _], _ => rfl) ok
theorem Tb.k_law {g : Gb} (T : Tb g) {k : Nat} {sp : DSp} (ok : ∀ f fd, Fun g.K "law" "law" (topS 92) f fd → Fok g k f fd ["_law_script"] sp) : Kn g "law" k ["_law_script"] sp := T.kn 73 60 rfl rfl (fun _ _ _ _ _ _ us hl => match us, hl with | [_], _ => rfl) ok
end DL

set_option Elab.async false
set_option linter.all false
set_option maxRecDepth 100000
set_option maxHeartbeats 2000000
/-! # Own exceptions whose __init__ says super().__init__('..'), then self.f = .. -/
namespace PySem
namespace XI
open PySem.W PySem.Calls PyProof.Rows PySem.HandSPX
open Builtin Builtin.ObjectAttr
/-- the built-in part of a class's mro -/
structure Tail (bm : List Value) (BN : String) : Prop where
  new : bm.contains (.type BN) = true
  noA : bm.contains (.type "AttributeError") = false
  noN : bm.contains (.type "NameError") = false
  obj : bm.contains (.type "object") = true
  pass : ∀ v, refuseLoop v "__setattr__" bm = pure ()
/-- a built-in __init__ of exceptions -/
structure InitF (BI initId : String) : Prop where
  kx : KxsFacts BI initId
  kind : builtinKind initId = some .slot
  row : Manifest.signature? initId = some ⟨.positional, "*", BI, .self, [⟨"args", .varPos, false⟩]⟩
  star : (BI != "*") = true
  entry : entryFor table initId = some Builtin.«BaseException.__init__»
  plain : plainId initId = true
theorem initVE : InitF "ValueError" "ValueError.__init__" := ⟨kxs_ValueError, F.excBase_ValueError.initKind, F.excBase_ValueError.initRow, F.excBase_ValueError.noStar, F.excBase_ValueError.initEntry, F.excBase_ValueError.init.plain⟩
theorem kxKE : KxsFacts "KeyError" "KeyError.__init__" := ⟨by show builtinType _ = _; rw [builtinType_eq_fast]; kernel_rfl, by first | kernel_rfl | rfl⟩
theorem initKE : InitF "KeyError" "KeyError.__init__" := ⟨kxKE, excClass_KeyError.initKind, excClass_KeyError.initSig, excClass_KeyError.notStar, excClass_KeyError.initEntry, excClass_KeyError.init.plain⟩
section
variable {prog : Program} {w : World} {M : Model} {A : Around} {E : Value → Shared → Prop} {R : Result → Shared → Prop} {h : Heap} {g : Array GenState} {d : Drawn} {t : Nat} {os : OsState}
variable {nm q : Str} {C N : Addr} {bs bm bN : List Value} {hdct : Bool} {sn : List Str} {sub : List Value} {ab : Bool} {col : Option Bool} {dd : Option Addr} {k0 k1 k2 k3 k5 : Option Value} {BN newId iN BI initId : String}
theorem chk_new (F : ExcBaseFacts BN newId iN bN) (T : Tail bm BN) {us : List Value} {Q : Unit → Shared → Prop} (hC : h.get? C = some (excClassObj nm q C N bs bm hdct sn sub ab col dd k0 k1 k2 k3 k5 newId)) (hq : Q () ⟨h, g, d, t, os⟩) :
    wpAny M A (checkBuiltinCall newId ⟨.ref C :: us, []⟩) Q E ⟨h, g, d, t, os⟩ := by
  have c1 : (Value.ref C :: bm).contains (.type BN) = true := by rw [List.contains_cons, T.new, Bool.or_true]
  have c2 := F.noStar
  simp only [checkBuiltinCall, F.newKind, F.newSplit, F.newRow]
  repeat (first | refine wpAny_loadPart_at hC ?_ | (refine wpAny_isSubtype_exc hC ?_; rw [c1]) | refine wpAny_staticBase_exc hC ?_ | refine wpAny_madeBy_exc hC ?_ | simp only [bne_self_eq_false, Bool.false_eq_true, if_false] | wp_step)
  exact hq
theorem new_at (F : ExcBaseFacts BN newId iN bN) (T : Tail bm BN) {us : List Value} (hC : h.get? C = some (excClassObj nm q C N bs bm hdct sn sub ab col dd k0 k1 k2 k3 k5 newId)) (hl : us.length ≤ sizeLine)
    (hq : R (.ok (.ret (.ref (h.objs.size + 1)))) ⟨(h.push { cls := .type "tuple", data := .seq us.toArray }).push { cls := .ref C, data := .fields #[.ref h.objs.size, .none, .none, .none, .bool false, .none] }, g, d, t, os⟩) :
    codeAny (model prog w) A (.builtin newId ⟨.ref C :: us, []⟩) R ⟨h, g, d, t, os⟩ := by
  have e1 := F.ends
  have c1 : (Value.ref C :: bm).contains (.type BN) = true := by rw [List.contains_cons, T.new, Bool.or_true]
  have c2 : (Value.ref C :: bm).contains (.type "AttributeError") = false := by rw [List.contains_cons, T.noA]; rfl
  have c3 : (Value.ref C :: bm).contains (.type "NameError") = false := by rw [List.contains_cons, T.noN]; rfl
  refine codeAny_builtinAt F.entry ?_
  unfold Builtin.«BaseException.__new__»
  refine wpAt_bind ?_
  show wpAt _ _ _ (stack >>= _) _ _ _
  refine wpAt_bind (wpAt_stack fun p below => wpAt_of_wpAny ?_)
  wp_walk
  refine wpAt_of_wpAny ?_
  rw [F.owner]
  repeat (first | with_reducible refine wpAny_madeHere_exc F.canon hC ?_ | with_reducible refine wpAny_loadPart_at hC ?_ | (with_reducible refine wpAny_isSubtype_exc hC ?_; first | rw [c1] | rw [c2] | rw [c3]) | wp_step)
  show R _ _
  rw [Heap.size_push]
  exact hq
theorem type_call_at (F : ExcBaseFacts BN newId iN bN) (T : Tail bm BN) {us : List Value} {fI : Addr} {Q : Fin → Shared → Prop} (hC : h.get? C = some (excClassObj nm q C N bs bm hdct sn sub ab col dd k0 k1 k2 k3 k5 newId))
    (hi : W.Looks (model prog w) h (typeLookup (.ref C) "__init__") (some (.ref fI))) (hb : ∀ self, W.Looks (model prog w) h (bindSpecial (.ref fI) self) (.ref fI, [self])) (hl : us.length ≤ sizeLine)
    (hq : codeAny (model prog w) A (.call (.ref fI) ⟨.ref (h.objs.size + 1) :: us, []⟩) (fun r s' => match r with | .ok (.ret v) => v = .none ∧ Q (.done (.ret (.ref (h.objs.size + 1)))) s' | .ok _ => False | .error e => E e s') ⟨(h.push (W.kdv_tup us)).push (excO C h.objs.size), g, d, t, os⟩) :
    wpAny (model prog w) A (Builtin.«type.__call__» ⟨.ref C :: us, []⟩) Q E ⟨h, g, d, t, os⟩ := by
  repeat (first | with_reducible refine wpAny_loadPart_at hC ?_ | with_reducible refine wpAny_madeBy_exc hC ?_ | wp_step)
  refine codeAny_call_builtin_code (Code.quiet_builtin _ F.quiet) (chk_new F T hC ?_)
  refine new_at F T hC hl ?_
  show wpAny _ _ _ _ _ _
  have k : ∀ b o, h.get? b = some o → ((h.push (W.kdv_tup us)).push (excO C h.objs.size)).get? b = some o := fun b o e => Heap.get?_push_of_some _ (Heap.get?_push_of_some _ e)
  have hC2 := k _ _ hC
  have hx : ((h.push (W.kdv_tup us)).push (excO C h.objs.size)).get? (h.objs.size + 1) = some (excO C h.objs.size) := by heap_get
  have cC : (Value.ref C :: bm).contains (.ref C) = true := by simp
  have i1 := hi.keeps k
  have b1 := (hb (.ref (h.objs.size + 1))).keeps k
  unfold isInstance
  repeat (first | with_reducible refine wpAny_loadPart_at hx ?_ | (with_reducible refine wpAny_isSubtype_exc hC2 ?_; rw [cC]) | wp_step)
  show wpAny _ _ (typeLookup (.ref C) _) _ _ _
  refine i1.at ?_
  refine wpAny_holding (wpAny_bind (b1.at ?_))
  refine wpAny_bind (wpAny_call (codeAny_mono hq fun r s' z => ?_))
  rcases r with e | (v | _ | _ | _) <;> first | exact z | exact z.elim | skip
  obtain ⟨rfl, z⟩ := z
  first
    | exact wpAny_pure (wpAny_pure z)
    | (wp_walk; exact z)
theorem call_cls (F : ExcBaseFacts BN newId iN bN) (T : Tail bm BN) {us : List Value} {fI : Addr} (hC : h.get? C = some (excClassObj nm q C N bs bm hdct sn sub ab col dd k0 k1 k2 k3 k5 newId))
    (hi : W.Looks (model prog w) h (typeLookup (.ref C) "__init__") (some (.ref fI))) (hb : ∀ self, W.Looks (model prog w) h (bindSpecial (.ref fI) self) (.ref fI, [self])) (hl : us.length ≤ sizeLine)
    (hq : codeAny (model prog w) (A.under (.builtin "type.__call__" ⟨.ref C :: us, []⟩)) (.call (.ref fI) ⟨.ref (h.objs.size + 1) :: us, []⟩) (W.InitBack (h.objs.size + 1) R) ⟨(h.push (W.kdv_tup us)).push (excO C h.objs.size), g, d, t, os⟩) :
    codeAny (model prog w) A (.call (.ref C) ⟨us, []⟩) R ⟨h, g, d, t, os⟩ := by
  have f1 := tc_lookup
  have f2 := tc_bind (.ref C)
  have hTy : (⟨h, g, d, t, os⟩ : Shared).TypeIs (.ref C) "type" := ⟨_, hC, rfl⟩
  refine codeAny_of_tree ?_
  show wpAny _ _ (callAny (.ref C) _) _ _ _
  repeat (any_goals (first | assumption | with_reducible refine wpAny_loadPart_at hC ?_ | wp_step))
  refine ⟨rfl, ?_⟩
  refine codeAny_call_builtin_at (Code.quiet_builtin _ (by decide +kernel)) entry_typeCall (wpAny_check_type_call_sub hC (type_call_at F T hC hi hb hl ?_))
  refine codeAny_mono hq fun r s' z => ?_
  rcases r with e | (v | _ | _ | _) <;> exact z
/-- the bound built-in __init__, called -/
theorem call_mw (I : InitF BI initId) {u e t0 : Addr} {us : List Value} {Q : Value → Shared → Prop} (hC : h.get? C = some (excClassObj nm q C N bs bm hdct sn sub ab col dd k0 k1 k2 k3 k5 newId)) (he : h.get? e = some (excO C t0)) (hu : h.get? u = some (kxs_mw initId e)) (hl : us.length ≤ sizeLine)
    (hq : ∀ h' t1, (∀ b o, b ≠ e → h.get? b = some o → h'.get? b = some o) → h'.get? e = some (excO C t1) → Q .none ⟨h', g, d, t, os⟩) : wpAny (model prog w) A (call (.ref u) us) Q E ⟨h, g, d, t, os⟩ := by
  have c2 := I.star
  refine wpAny_call (codeAny_of_tree ?_)
  show wpAny _ A.in1 (callAny (.ref u) ⟨us, []⟩) _ _ _
  simp only [callAny]
  refine wpAny_bind (wpAny_load hu ?_)
  simp only [kxs_mw, show (Value.type "method-wrapper" == Value.type "method" || Value.type "method-wrapper" == Value.type "builtin_function_or_method" || Value.type "method-wrapper" == Value.type "method-wrapper") = true by decide, if_true]
  refine KFB.if_so (by decide) ?_
  refine wpAny_bind ?_
  have chk : ∀ {Q' : Unit → Shared → Prop}, Q' () ⟨h, g, d, t, os⟩ → wpAny (model prog w) A.in1 (checkBoundCall initId ⟨.ref e :: us, []⟩) Q' (fun e s' => wants Q E (.error e) s') ⟨h, g, d, t, os⟩ := fun {Q'} hq' => by
    simp only [checkBoundCall, I.kind, I.row]
    repeat (first | (with_reducible refine wpAny_loadPart_at he ?_) | with_reducible refine wpAny_loadPart_at hC ?_ | wp_step)
    refine wpAny_onRaise ?_
    rw [show ∀ (a b : String) (n : Nat), Bind.check ⟨.positional, "*", BI, .self, [⟨"args", .varPos, false⟩]⟩ a b n (List.map (fun x => x.fst) ({ pos := Value.ref e :: us } : Args).kw) = pure () from fun a b n => check_star_args _ _ _ _ _ _]
    exact wpAny_pure hq'
  refine chk ?_
  refine wpAny_bind (wpAny_pure (wpAny_pure ?_))
  refine ⟨plainId_quiet I.plain _, codeAny_builtin I.entry ?_⟩
  rw [Around.under_plainId I.plain _]
  exact exc_init_tree (cls := .ref C) (t0 := t0) (dv := none) (c2 := .none) (c3 := .none) (b4 := .bool false) he hl fun h' k e' _ => hq h' _ k e'
end
end XI
end PySem

set_option Elab.async false
set_option linter.all false
set_option maxRecDepth 100000
set_option maxHeartbeats 2000000
/-! # Own exceptions: the stores, the __init__'s body -/
namespace PySem
namespace XI
open PySem.W PySem.Calls PyProof.Rows PySem.HandSPX
open Builtin Builtin.ObjectAttr
section
variable {prog : Program} {w : World} {A : Around} {E : Value → Shared → Prop} {R : Result → Shared → Prop} {hp : Heap} {g : Array GenState} {d : Drawn} {t : Nat} {os : OsState}
structure Over (cd : ClassData) : Prop where
  obj : cd.mro.contains (.type "object") = true
  ne : cd.mro.isEmpty = false
  pass : ∀ v, refuseLoop v "__setattr__" cd.mro = pure ()
  dct : cd.hasDict = true
theorem osa_to {K : W.Frag} {name : Str} {tk : Tok} {v : Value} {x C : Addr} {ox : Obj} {od : Option Obj} {cd : ClassData} (X : K.In hp) (I : W.InstAt hp x ox C od) (hcd : W.clsIn K C = some cd) (V : Over cd) (ha : W.findIn K (.ref C) name = some none)
    (hq : wpAny (model prog w) A.in1 (storeInOwnDict (.ref x) (.ref C) (.str name tk) name v false) (fun fin s' => match fin with | .done f => R (.ok f) s' | .again c' => c'.quiet = true ∧ codeAny (model prog w) A c' R s') (fun e s' => R (.error e) s') ⟨hp, g, d, t, os⟩) :
    codeAny (model prog w) A (.call (.builtin "object.__setattr__") ⟨[.ref x, .str name tk, v], []⟩) R ⟨hp, g, d, t, os⟩ := by
  have SF := F.store_object
  have s1 : W.Looks (model prog w) hp (isInstance (.ref x) (.type "object")) true := I.type.andThen (W.looks_mroIn X (by unfold W.mroIn; rw [hcd, Option.bind_some, if_neg (by rw [V.ne]; decide), V.obj]))
  refine codeAny_call_builtin SF.slot.plain SF.entry (@W.check_slot (model prog w) _ _ ⟨hp, g, d, t, os⟩ "object.__setattr__" "object" "__setattr__" (.ref x) [.str name tk, v] [] _ SF.kind SF.split s1 (SF.args (.ref x) (.str name tk) v) ?_)
  have l1 : W.Looks (model prog w) hp (mroOf (.ref C)) cd.mro := (W.looks_clsIn X hcd).andThen .now
  have l2 : W.Looks (model prog w) hp (storeTaker? none) none := .now
  rw [W.osa_eq, refuse_eq]
  refine wpAny_bind (wpAny_bind (I.type.at (wpAny_bind (l1.at ?_))))
  rw [V.pass]
  exact wpAny_pure (wpAny_bind (I.type.at (wpAny_bind ((W.looks_findIn X ha).at (wpAny_bind (l2.at hq))))))
/-- the first field -/
theorem osa_one {K : W.Frag} {name : Str} {tk : Tok} {v : Value} {x C : Addr} {fv : Array Value} {cd : ClassData} (X : K.In hp) (hx : hp.get? x = some { cls := .ref C, data := .fields fv }) (hcd : W.clsIn K C = some cd) (V : Over cd) (ha : W.findIn K (.ref C) name = some none)
    (hq : ∀ h' tk' dx, (∀ b o, b ≠ x → hp.get? b = some o → h'.get? b = some o) → hp.objs.size ≤ dx → dx ≠ x → h'.get? x = some { cls := .ref C, dict := some dx, data := .fields fv } → h'.Ns1 dx (fun y => if y = name then some v else none) → R (.ok (.ret .none)) ⟨h', g, d, tk', os⟩) :
    codeAny (model prog w) A (.call (.builtin "object.__setattr__") ⟨[.ref x, .str name tk, v], []⟩) R ⟨hp, g, d, t, os⟩ := by
  have xs : x ≠ hp.objs.size := Nat.ne_of_lt (Heap.lt_size hx)
  refine osa_to (ox := { cls := .ref C, data := .fields fv }) (od := none) X ⟨hx, rfl, rfl, trivial⟩ hcd V ha ?_
  have lc : W.Looks (model prog w) hp (classData C) cd := W.looks_clsIn X hcd
  have hd := V.dct
  obtain ⟨a1, a2, a3, a4, a5, a6, a7, a8, a9, a10, a11⟩ := cd
  dsimp only at hd
  subst hd
  unfold storeInOwnDict ownDictForStores
  repeat (first | with_reducible refine HandSPX.store_in_new ?_ ?_ | with_reducible refine wpAny_loadPart_at hx ?_ | with_reducible refine lc.at ?_ | wp_step)
  · exact ⟨_, #[], _, (Heap.get?_update_ne _ _ _ _ xs.symm).trans (Heap.get?_push_at rfl rfl), rfl, fun e he => absurd he (by simp), fun _ => rfl⟩
  · intro h' tk' hn sb
    have hx2 : (hp.push { cls := .type "dict", data := .dict #[] }).get? x = some { cls := .ref C, data := .fields fv } := Heap.get?_push_of_some _ hx
    refine hq h' tk' hp.objs.size (fun b o hb ho => ?_) (Nat.le_refl _) xs.symm ?_ hn
    · exact (sb.2 b (Nat.ne_of_lt (Heap.lt_size ho))).trans ((Heap.get?_update_ne _ _ _ _ hb).trans (Heap.get?_push_of_some _ ho))
    · exact (sb.2 x xs).trans (Heap.get?_update_self _ hx2 rfl)
/-- a further field -/
theorem osa_two {K : W.Frag} {name : Str} {tk : Tok} {v : Value} {x C dx : Addr} {fv : Array Value} {cd : ClassData} {m0 : Str → Option Value} {nl : List Str} (X : K.In hp) (hx : hp.get? x = some { cls := .ref C, dict := some dx, data := .fields fv }) (hn : hp.Ns1 dx m0) (hw : Within m0 nl) (hz : nl.length ≤ 1000)
    (hcd : W.clsIn K C = some cd) (V : Over cd) (ha : W.findIn K (.ref C) name = some none)
    (hq : ∀ h' tk', (∀ b o, b ≠ dx → hp.get? b = some o → h'.get? b = some o) → h'.Ns1 dx (fun y => if y = name then some v else m0 y) → R (.ok (.ret .none)) ⟨h', g, d, tk', os⟩) :
    codeAny (model prog w) A (.call (.builtin "object.__setattr__") ⟨[.ref x, .str name tk, v], []⟩) R ⟨hp, g, d, t, os⟩ := by
  obtain ⟨oD, _, _, hoD, _, _⟩ := hn.count hw
  refine osa_to (ox := { cls := .ref C, dict := some dx, data := .fields fv }) (od := some oD) X ⟨hx, rfl, rfl, hoD⟩ hcd V ha ?_
  have lc : W.Looks (model prog w) hp (classData C) cd := W.looks_clsIn X hcd
  have hd := V.dct
  obtain ⟨a1, a2, a3, a4, a5, a6, a7, a8, a9, a10, a11⟩ := cd
  dsimp only at hd
  subst hd
  unfold storeInOwnDict ownDictForStores
  repeat (first | with_reducible refine OEX.store_in_old hn hw hz ?_ | with_reducible refine wpAny_loadPart_at hx ?_ | with_reducible refine lc.at ?_ | wp_step)
  intro h' tk' hn2 sb
  exact hq h' tk' (fun b o hb ho => (sb.2 b hb).trans ho) hn2
end
/-- the class of an own exception and its __init__, as K has them -/
structure ClsF (prog : Program) (K : Frag) (C fI cc : Addr) (q : Str) (params : Arguments) (body : List Stmt) (scope : Scope) (BN newId BI initId : String) : Prop where
  cls : ∃ nm qn N bs bm sn sub ab col dd k0 k1 k2 k3 k5, K.lookup C = some (excClassObj nm qn C N bs bm true sn sub ab col dd k0 k1 k2 k3 k5 newId) ∧ Tail bm BN ∧ alongIn K "__init__" bm = some (some (.builtin initId))
  init : findIn K (.ref C) "__init__" = some (some (.ref fI))
  tyI : typeIn K (.ref fI) = some (.type "function")
  fn : ∃ oc od osl kV doc pm an cda ct ccl cdd vs ccs file tf, K.lookup fI = some ⟨oc, od, .func (ksFn "__init__" q params body scope .none kV doc pm an (.ref cda) ct cc), osl⟩ ∧ codeIn K (.ref cda) q = true ∧
    K.lookup cda = some ⟨ccl, cdd, .fields vs, ccs⟩ ∧ vs[2]? = some (.str file tf) ∧ ((prog.main.file : Str) == file) = true
  cell : ∃ cl cld csl, K.lookup cc = some ⟨cl, cld, .cell (some (.ref C)), csl⟩
  st : nsIn K cStatics "thirdparty.any" = some none
  sa : findIn K (.ref C) "__setattr__" = some (some (.builtin "object.__setattr__"))
  sub : subIn K (.ref C) (.type BI) = some true
  own : mroIn K C (.ref C) = some true
theorem ClsF.over {prog : Program} {K : Frag} {C fI cc : Addr} {q : Str} {params : Arguments} {body : List Stmt} {scope : Scope} {BN newId BI initId : String} (F : ClsF prog K C fI cc q params body scope BN newId BI initId) : ∃ cd, clsIn K C = some cd ∧ Over cd := by
  obtain ⟨nm, qn, N, bs, bm, sn, sub, ab, col, dd, k0, k1, k2, k3, k5, hC, T, _⟩ := F.cls
  refine ⟨_, by unfold clsIn; rw [hC], ⟨?_, rfl, fun v => ?_, rfl⟩⟩
  · show (Value.ref C :: bm).contains _ = true
    rw [List.contains_cons, T.obj, Bool.or_true]
  · show refuseLoop v _ (Value.ref C :: bm) = _
    rw [refuseLoop_ref]
    exact T.pass v
section
variable {prog : Program} {w : World} {A : Around} {E : Value → Shared → Prop} {R : Result → Shared → Prop} {h : Heap} {g : Array GenState} {d : Drawn} {t : Nat} {os : OsState}
variable {K : Frag} {C fI cc : Addr} {q : Str} {params : Arguments} {scope : Scope} {BN newId BI initId : String} {mg mb : Str → Option Value}
/-- super().__init__('m') in the body -/
theorem say_super {bd rest : List Stmt} {m : Str} {kk : Nat} {p1 p2 p3 p4 p5 p6 : Pos} {cda L e t0 : Addr} {mL : Str → Option Value} {ar : Arg} {Q : Flow → Shared → Prop} {oc ccl : Value} {od cdd : Option Addr} {osl ccs : Array (Option Value)} {vs : Array Value} {file : Str} {tf : Tok} {fd : FuncData} {body0 : List Stmt}
    (F : ClsF prog K C fI cc q params body0 scope BN newId BI initId) (IF : InitF BI initId) (lk : K.lookup fI = some ⟨oc, od, .func fd, osl⟩) (hp0 : (fd.params.posonlyargs ++ fd.params.args).head? = some ar)
    (lc : K.lookup cda = some ⟨ccl, cdd, .fields vs, ccs⟩) (hvs : vs[2]? = some (.str file tf)) (hfile : ((prog.main.file : Str) == file) = true)
    (X : K.In h) (G : h.Ns mainGlobals mg) (hmg : mg "super" = none) (B : h.Ns builtinsNs mb) (hmb : mb "super" = some (.type "super")) (hL : h.Ns L mL) (hself : mL ar.arg = some (.ref e)) (he : h.get? e = some (excO C t0))
    (hks : scope.names.lookup ("super" : Str) = some .globalImplicit) (hkc : scope.names.lookup ("__class__" : Str) = some .free) (hka : scope.names.lookup ar.arg = some .local) (hk : scope.kind = .function) (htop : (prog.main.scope.names.lookup ("super" : Str)).isSome = false)
    (hin : interactive (ksEnv q scope L fI (.ref cda) cc) = false) {pl : Sem Bool} (hev : eval (.Call (.Attribute (.Call (.Name "super" p1) [] [] p2) "__init__" p3) [.Constant (.str m) kk p4] [] p5) (ksEnv q scope L fI (.ref cda) cc) = (do
      let ov ← attributeBase (.Call (.Name "super" p1) [] [] p2) "__init__" (ksEnv q scope L fI (.ref cda) cc) (eval (.Call (.Name "super" p1) [] [] p2) (ksEnv q scope L fI (.ref cda) cc))
      standAt p3.atName
      let (f, first) ← holding [ov] (getMethod ov "__init__" pl)
      callWith p5 f first (backTo p5 (starEach [.Constant (.str m) kk p4] (ksEnv q scope L fI (.ref cda) cc))) []))
    (hq : ∀ h' tk' t1, (∀ b o, b ≠ e → h.get? b = some o → h'.get? b = some o) → h'.get? e = some (excO C t1) → wpAt (model prog w) A (.func bd (ksEnv q scope L fI (.ref cda) cc)) (execs rest (ksEnv q scope L fI (.ref cda) cc)) Q E ⟨h', g, d, tk', os⟩) :
    wpAt (model prog w) A (.func bd (ksEnv q scope L fI (.ref cda) cc)) (execs (.Expr (.Call (.Attribute (.Call (.Name "super" p1) [] [] p2) "__init__" p3) [.Constant (.str m) kk p4] [] p5) p6 :: rest) (ksEnv q scope L fI (.ref cda) cc)) Q E ⟨h, g, d, t, os⟩ := by
  obtain ⟨nm, qn, N, bs, bm, sn, sub, ab, col, dd, k0, k1, k2, k3, k5, hC, T, hal⟩ := F.cls
  obtain ⟨cl, cld, csl, lcc⟩ := F.cell
  refine ks_wpAt_execs_cons (ks_wpAt_Expr_any (ks_wpAt_MethodCall ?_ hev) hin)
  have hCo := X _ _ hC
  refine ks_wpAt_super_base (env := ksEnv q scope L fI (.ref cda) cc) hks hkc (by decide) rfl (X _ _ lk) rfl hp0 rfl (X _ _ lc) rfl hvs hfile htop ?_
  refine ks_loadName_global hk hks (loadGlobal_builtin (env := ksEnv q scope L fI (.ref cda) cc) G hmg B hmb ⟨rfl, ?_⟩)
  refine wpAny_loadName_free hk hkc rfl ⟨_, X _ _ lcc, rfl⟩ ?_
  refine wpAny_loadName_local hk hka hL hself ?_
  refine ks_wpAny_isType_cls hCo rfl ⟨rfl, ?_⟩
  refine ks_wpAny_call_super hCo rfl he rfl (fun c z => by cases z) (looks_mroIn X F.own) (fun h1 e1 k1' => ?_)
  have X1 : K.In h1 := fun a o z => k1' a o (X a o z)
  have he1 := k1' _ _ he
  have ne : e ≠ C := fun z => by
    rw [z, hCo] at he
    cases he
  have IA : InstAt h1 e (excO C t0) C none := ⟨he1, rfl, rfl, trivial⟩
  have hcl : clsIn K C = some { name := nm, bases := bs, mro := .ref C :: bm, ns := N, qualname := qn, hasDict := true, slotNames := sn, subclasses := sub, abstract := ab, collection := col, hasDel := false } := by unfold clsIn; rw [hC]
  refine kxs_getMethod IF.kx e1 (looks_opaque X1 F.st) (l₀ := .ref C :: bm) (l := bm) ((looks_clsIn X1 hcl).andThen .now) (by simp [List.dropWhile_cons]) X1 hal (IA.type.andThen (looks_subIn X1 F.sub)) ne (by decide) ?_
  have hu : (h1.push (kxs_mw initId e)).get? h1.objs.size = some (kxs_mw initId e) := Heap.get?_push_at rfl rfl
  have k2' : ∀ b o, h1.get? b = some o → (h1.push (kxs_mw initId e)).get? b = some o := fun b o z => Heap.get?_push_of_some _ z
  show wpAny _ _ (callWith p5 (.ref h1.objs.size) [] ((false, eval (.Constant (.str m) kk p4) (ksEnv q scope L fI (.ref cda) cc)) :: []) []) _ _ _
  refine kxs_callWith (i := initId) (x := e) rfl (evalArgs_plain (Calls.spliced_cons (wpAny_Constant_str (k := kk) (pos := p4) (Calls.spliced_nil ⟨hu, ?_⟩))))
  refine call_mw IF (k2' _ _ (k1' _ _ hCo)) (k2' _ _ he1) hu (by show 1 ≤ sizeLine; rw [sizeLine_eq]; omega) fun h3 t1 k3' e3 => ?_
  exact hq h3 _ t1 (fun b o hb z => k3' b o hb (k2' b o (k1' b o z))) e3
end
end XI
end PySem

set_option Elab.async false
set_option linter.all false
set_option maxRecDepth 100000
set_option maxHeartbeats 2000000
/-! # Own exceptions: __init__ called -/
namespace PySem
namespace XI
open PySem.W PySem.Calls PyProof.Rows PySem.HandSPX
section
variable {prog : Program} {w : World} {A : Around} {E : Value → Shared → Prop} {R : Result → Shared → Prop} {h : Heap} {g : Array GenState} {d : Drawn} {t : Nat} {os : OsState}
variable {K : Frag} {C fI cc : Addr} {q : Str} {params : Arguments} {scope : Scope} {BN newId BI initId : String} {mg mb : Str → Option Value} {body0 : List Stmt}
/-- an exception with its dict -/
abbrev excD (C t dx : Addr) : Obj := { cls := .ref C, dict := some dx, data := .fields #[.ref t, .none, .none, .none, .bool false, .none] }
section
variable {f y : Str} {a1 a2 a3 a4 : Pos} {cdv u : Value} {L e t1 : Addr} {mL : Str → Option Value} {Q : Flow → Shared → Prop}
theorem asg_one (F : ClsF prog K C fI cc q params body0 scope BN newId BI initId) (nf : findIn K (.ref C) f = some none) (X : K.In h) (hL : h.Ns L mL) (hy : mL y = some u) (hs : mL "self" = some (.ref e)) (he : h.get? e = some (excO C t1))
    (hk : scope.kind = .function) (ky : scope.names.lookup y = some .local) (ks : scope.names.lookup ("self" : Str) = some .local) (hd : (y == ("__debug__" : Str)) = false)
    (hsw : swapsWith (.Name y a3) (some (.Attribute (.Name "self" a1) f a2)) a4.line (ksEnv q scope L fI cdv cc) = pure false)
    (hq : ∀ h' tk' dx, (∀ b o, b ≠ e → h.get? b = some o → h'.get? b = some o) → h.objs.size ≤ dx → dx ≠ e → h'.get? e = some (excD C t1 dx) → h'.Ns1 dx (fun z => if z = f then some u else none) → Q .next ⟨h', g, d, tk', os⟩) :
    wpAny (model prog w) A (exec (.Assign [.Attribute (.Name "self" a1) f a2] (.Name y a3) a4) (ksEnv q scope L fI cdv cc)) Q E ⟨h, g, d, t, os⟩ := by
  obtain ⟨cd, hcd, V⟩ := F.over
  refine plainObj_wpAny_Assign_Attribute (wpAny_Name (wpAny_loadName_local hk ky hL hy ?_) hd) hsw
  refine wpAny_Name (wpAny_loadName_local hk ks hL hs ?_) (by decide)
  refine set_plain X (ox := excO C t1) (od := none) ⟨he, rfl, rfl, trivial⟩ F.sa ?_
  exact osa_one X he hcd V nf fun h' tk' dx k dn ne hx hn => hq h' tk' dx k dn ne hx hn
theorem asg_two {dx : Addr} {m0 : Str → Option Value} {nl : List Str} (F : ClsF prog K C fI cc q params body0 scope BN newId BI initId) (nf : findIn K (.ref C) f = some none) (X : K.In h) (hL : h.Ns L mL) (hy : mL y = some u) (hs : mL "self" = some (.ref e)) (he : h.get? e = some (excD C t1 dx)) (hn0 : h.Ns1 dx m0) (hw : Within m0 nl) (hz : nl.length ≤ 1000)
    (hk : scope.kind = .function) (ky : scope.names.lookup y = some .local) (ks : scope.names.lookup ("self" : Str) = some .local) (hd : (y == ("__debug__" : Str)) = false)
    (hsw : swapsWith (.Name y a3) (some (.Attribute (.Name "self" a1) f a2)) a4.line (ksEnv q scope L fI cdv cc) = pure false)
    (hq : ∀ h' tk', (∀ b o, b ≠ dx → h.get? b = some o → h'.get? b = some o) → h'.Ns1 dx (fun z => if z = f then some u else m0 z) → Q .next ⟨h', g, d, tk', os⟩) :
    wpAny (model prog w) A (exec (.Assign [.Attribute (.Name "self" a1) f a2] (.Name y a3) a4) (ksEnv q scope L fI cdv cc)) Q E ⟨h, g, d, t, os⟩ := by
  obtain ⟨cd, hcd, V⟩ := F.over
  obtain ⟨oD, _, _, hoD, _, _⟩ := hn0.count hw
  refine plainObj_wpAny_Assign_Attribute (wpAny_Name (wpAny_loadName_local hk ky hL hy ?_) hd) hsw
  refine wpAny_Name (wpAny_loadName_local hk ks hL hs ?_) (by decide)
  refine set_plain X (ox := excD C t1 dx) (od := some oD) ⟨he, rfl, rfl, hoD⟩ F.sa ?_
  exact osa_two X he hn0 hw hz hcd V nf fun h' tk' k hn => hq h' tk' k hn
end
/-- what the scope, the parameters and the first statement must be -/
structure BodyF (q : Str) (params : Arguments) (scope : Scope) (ys : List Str) (m : Str) (kk : Nat) (p1 p2 p3 p4 p5 p6 : Pos) : Prop where
  head : ∃ ar, (params.posonlyargs ++ params.args).head? = some ar ∧ ar.arg = ("self" : Str)
  ks : scope.names.lookup ("super" : Str) = some .globalImplicit
  kc : scope.names.lookup ("__class__" : Str) = some .free
  loc : ∀ y ∈ ("self" : Str) :: ys, scope.names.lookup y = some .local
  kind : scope.kind = .function
  cell : ∀ x ∈ scope.names, x.2 ≠ .cell
  co : scope.isCoroutine = false
  gen : scope.isGenerator = false
  inter : ∀ L fI cdv cc, interactive (ksEnv q scope L fI cdv cc) = false
  ev : ∀ L fI cda cc, ∃ pl : Sem Bool, eval (.Call (.Attribute (.Call (.Name "super" p1) [] [] p2) "__init__" p3) [.Constant (.str m) kk p4] [] p5) (ksEnv q scope L fI (.ref cda) cc) = (do
      let ov ← attributeBase (.Call (.Name "super" p1) [] [] p2) "__init__" (ksEnv q scope L fI (.ref cda) cc) (eval (.Call (.Name "super" p1) [] [] p2) (ksEnv q scope L fI (.ref cda) cc))
      standAt p3.atName
      let (f, first) ← holding [ov] (getMethod ov "__init__" pl)
      callWith p5 f first (backTo p5 (starEach [.Constant (.str m) kk p4] (ksEnv q scope L fI (.ref cda) cc))) [])
abbrev supS (m : Str) (kk : Nat) (p1 p2 p3 p4 p5 p6 : Pos) : Stmt := .Expr (.Call (.Attribute (.Call (.Name "super" p1) [] [] p2) "__init__" p3) [.Constant (.str m) kk p4] [] p5) p6
/-- the def entered, super() said: the stores are left -/
theorem enter_init {m : Str} {kk : Nat} {p1 p2 p3 p4 p5 p6 : Pos} {rest : List Stmt} {ys : List Str} {us : List Value} {e t0 : Addr} (F : ClsF prog K C fI cc q params (supS m kk p1 p2 p3 p4 p5 p6 :: rest) scope BN newId BI initId) (IF : InitF BI initId) (BF : BodyF q params scope ys m kk p1 p2 p3 p4 p5 p6)
    (hb : ∀ (kV doc pm : Value) (an : Option Addr) (cdv ct : Value) (c2 : Addr), bindArgs (ksFn "__init__" q params (supS m kk p1 p2 p3 p4 p5 p6 :: rest) scope .none kV doc pm an cdv ct c2) ⟨.ref e :: us, []⟩ = pure ((("self" : Str) :: ys).zip (.ref e :: us)))
    (hroom : A.depth < recursionLimit) (hlim : h.NoLimit) (X : K.In h) (G : h.Ns mainGlobals mg) (hmg : mg "super" = none) (B : h.Ns builtinsNs mb) (hmb : mb "super" = some (.type "super")) (he : h.get? e = some (excO C t0)) (htop : (prog.main.scope.names.lookup ("super" : Str)).isSome = false) (nd : (("self" : Str) :: ys).Nodup) (hl : us.length = ys.length)
    (hq : ∀ L cda h' tk' t1, (∀ b o, b ≠ e → h.get? b = some o → h'.get? b = some o) → h'.get? e = some (excO C t1) → h'.Ns L (fun x => ((("self" : Str) :: ys).zip (.ref e :: us)).reverse.lookup x) → L ≠ e → h.objs.size ≤ L →
      wpAny (model prog w) (A.deeper (callEnv (ksFn "__init__" q params (supS m kk p1 p2 p3 p4 p5 p6 :: rest) scope .none .none .none .none none (.ref cda) .none cc) L fI)) (execs rest (ksEnv q scope L fI (.ref cda) cc)) (fun f s' => R (.ok (.ret (match f with | .ret v => v | _ => .none))) s') (fun _ _ => False) ⟨h', g, d, tk', os⟩) :
    codeAny (model prog w) A (.call (.ref fI) ⟨.ref e :: us, []⟩) R ⟨h, g, d, t, os⟩ := by
  obtain ⟨oc, od, osl, kV, doc, pm, an, cda, ct, ccl, cdd, vs, ccs, file, tf, lk, hcd, lc, hvs, hfile⟩ := F.fn
  obtain ⟨ar, har, har2⟩ := BF.head
  refine ks_codeAny_call_defAt (fd := ksFn "__init__" q params (supS m kk p1 p2 p3 p4 p5 p6 :: rest) scope .none kV doc pm an (.ref cda) ct cc) (body := supS m kk p1 p2 p3 p4 p5 p6 :: rest) (binds := (("self" : Str) :: ys).zip (.ref e :: us)) hroom (X _ _ lk) rfl hlim (codeRec_of X hcd) rfl (.of_eq (hb kV doc pm an (.ref cda) ct cc)) BF.cell ?_ (fun h0 hns hk => ?_) BF.co BF.gen BF.kind
  · intro x hx
    obtain ⟨x1, x2⟩ := x
    exact BF.loc x1 (List.of_mem_zip hx).1
  · have hLe : h.objs.size ≠ e := Nat.ne_of_gt (Heap.lt_size he)
    have lself : ((("self" : Str) :: ys).zip (Value.ref e :: us)).reverse.lookup ("self" : Str) = some (.ref e) := by
      rw [List.zip_cons_cons, List.reverse_cons, List.lookup_append]
      have hno : ((ys.zip us).reverse).lookup ("self" : Str) = none := by
        rw [List.lookup_eq_none_iff]
        intro p hp
        obtain ⟨p1, p2⟩ := p
        have hm := (List.of_mem_zip (List.mem_reverse.mp hp)).1
        have nd1 := (List.nodup_cons.mp nd).1
        simp only [bne_iff_ne, ne_eq]
        rintro rfl
        exact nd1 hm
      rw [hno]
      rfl
    obtain ⟨pl, hev⟩ := BF.ev h.objs.size fI cda cc
    refine ks_wpAt_mono (say_super (q := q) (ar := ar) (L := h.objs.size) (e := e) (pl := pl) F IF lk har lc hvs hfile (fun a o z => hk a o (X a o z)) (G.keeps hk) hmg (B.keeps hk) hmb hns (by rw [har2]; exact lself) (hk _ _ he) BF.ks BF.kc (by rw [har2]; exact BF.loc _ List.mem_cons_self) BF.kind htop (BF.inter _ _ _ _) hev fun h' tk' t1 k e1 => wpAt_of_wpAny ?_) (fun _ _ z => z) fun _ _ z => z
    have hns2 : h'.Ns h.objs.size (fun x => ((("self" : Str) :: ys).zip (Value.ref e :: us)).reverse.lookup x) := by
      obtain ⟨oL, es, ep, e1, r⟩ := hns
      exact ⟨oL, es, ep, k _ _ hLe e1, r⟩
    refine wpAny_mono (hq h.objs.size cda h' tk' t1 (fun b o hb z => k b o hb (hk b o z)) e1 hns2 hLe (Nat.le_refl _)) (fun _ _ z => z) fun _ _ z => z.elim
end
end XI
end PySem

set_option Elab.async false
set_option linter.all false
set_option maxRecDepth 100000
set_option maxHeartbeats 2000000
/-! # Own exceptions: raise x(..) -/
namespace DL
open PySem PySem.Spec PyProof.Rows L2
open PySem.XI (ClsF InitF BodyF supS excD)
section
variable {X : Cx} {pins : List (Addr × Obj)} {σ : L2.St} {C fI cc : Addr} {q x : Str} {params : Arguments} {body : List Stmt} {scope : Scope} {BN newId BI initId iN : String} {bN : List Value} {e : Expr} {es : List Expr} {ta : TA} {p pos : Pos}
/-- a made exception with its dict, as raise wants it -/
theorem mkp_end {H1 : Hp} {Q : XK} {hp h2 : Heap} {g : Array GenState} {d : Drawn} {t t2 : Nat} {os : OsState} {a dx t0 : Addr} {fs : List (Str × V)} {mA : Str → Option Value} (I1 : Inv X pins σ H1 ⟨hp, g, d, t, os⟩) (ha : hp.objs.size ≤ a) (hd : hp.objs.size ≤ dx) (ne : dx ≠ a)
    (k : ∀ b o, hp.get? b = some o → h2.get? b = some o) (hx : h2.get? a = some (excD C t0 dx)) (hn : h2.Ns1 dx mA) (rel : ∀ f, RelO (fs.lookup f) (mA f)) (r : Raises X (.ref C)) (q : Q (.ref C) (some dx) (upd H1 dx (.xd fs))) : MkP X pins σ Q (.ref a) ⟨h2, g, d, t2, os⟩ := by
  obtain ⟨G, g1, g2⟩ := restrict h2 fun b => decide (b ≠ a)
  have gk : ∀ b, b ≠ a → G.get? b = h2.get? b := fun b hb => g1 b (decide_eq_true hb)
  have ga' : G.get? a = none := g2 a (by simp)
  have na : H1 a = none := I1.hok.fresh ha
  have kG : ∀ b o, hp.get? b = some o → G.get? b = some o := fun b o z => by
    rw [gk b (Nat.ne_of_lt (Nat.lt_of_lt_of_le (Heap.lt_size z) ha))]
    exact k b o z
  have J : Inv X pins σ (upd H1 dx (.xd fs)) ⟨G, g, d, t2, os⟩ := I1.laid (t' := t2) (a := dx) (o := .xd fs) (h' := G) kG hd ⟨mA, hn.at fun o z => (gk dx ne).trans z, rel⟩
  refine ⟨a, _, _, ⟨G, g, d, t2, os⟩, _, .ref C, some dx, rfl, J, fun b o z => ?_, ga', hx, ⟨rfl, rfl⟩, rfl, rfl, ?_, rfl, I1.bare, r, q⟩
  · by_cases hb : b = a
    · rw [hb, ga'] at z
      cases z
    · exact (gk b hb).symm.trans z
  · rw [upd_ne (Ne.symm ne)]
    exact na
/-- x(..): made by the class's own __init__, entered -/
theorem pmk_x {m : Str} {kk : Nat} {p1 p2 p3 p4 p5 p6 : Pos} {rest : List Stmt} {ys : List Str} (F : ClsF X.prog X.K C fI cc q params (supS m kk p1 p2 p3 p4 p5 p6 :: rest) scope BN newId BI initId) (FN : ExcBaseFacts BN newId iN bN) (IF : InitF BI initId) (BF : BodyF q params scope ys m kk p1 p2 p3 p4 p5 p6)
    (hb : ∀ (us : List Value), us.length = ys.length → ∀ (a : Addr) (kV doc pm : Value) (an : Option Addr) (cdv ct : Value) (c2 : Addr), bindArgs (PySem.W.ksFn "__init__" q params (supS m kk p1 p2 p3 p4 p5 p6 :: rest) scope .none kV doc pm an cdv ct c2) ⟨.ref a :: us, []⟩ = pure ((("self" : Str) :: ys).zip (.ref a :: us)))
    (nd : (("self" : Str) :: ys).Nodup) (h8 : ys.length ≤ 8) (hr : Room 2 X.A) (hg : Gl X x) (hm : X.mg x = some (.ref C)) (kC : PySem.W.keepIn X.K (.ref C) = true) (hsup : X.mg "super" = none) (htop : (X.prog.main.scope.names.lookup ("super" : Str)).isSome = false) (ha : PA X (e :: es) ta)
    (hst : ∀ (A : Around) (L a t1 cda : Addr) (us : List Value) (vs : List V) (h2 : Heap) (g : Array GenState) (d : Drawn) (tk : Nat) (os : OsState) (Q : Flow → Shared → Prop) (fs : List (Str × V)), us.length = ys.length → Vals vs us → X.K.In h2 → (∀ b o, X.K.lookup b = some o → b ≠ a) → h2.get? a = some (PySem.HandSPX.excO C t1) → h2.Ns L (fun z => ((("self" : Str) :: ys).zip (.ref a :: us)).reverse.lookup z) → L ≠ a →
      (∀ h' tk' dx mA, (∀ b o, b ≠ a → h2.get? b = some o → h'.get? b = some o) → h2.objs.size ≤ dx → dx ≠ a → h'.get? a = some (excD C t1 dx) → h'.Ns1 dx mA → (∀ f, RelO ((ys.zip vs).lookup f) (mA f)) → Q .next ⟨h', g, d, tk', os⟩) →
      wpAny (model X.prog X.w) A (execs rest (PySem.W.ksEnv q scope L fI (.ref cda) cc)) Q (fun _ _ => False) ⟨h2, g, d, tk, os⟩)
    (rs : Raises X (.ref C)) (hdb : (x == ("__debug__" : Str)) = false := by decide) (he : starEach (e :: es) X.env = (false, eval e X.env) :: starEach es X.env := by rfl) (hpl : (backTo pos (starEach es X.env)).any (·.1) = false := by rfl) :
    PMk X (.Call (.Name x p) (e :: es) [] pos) (fun σ H Q => ta σ H fun vs H1 => vs.length = ys.length ∧ ∀ dx, H1 dx = none → Q (.ref C) (some dx) (upd H1 dx (.xd (ys.zip vs)))) := by
  intro pins s σ H Q I h
  obtain ⟨nm, qn, N, bs, bm, sn, sub, ab, col, dd, k0, k1, k2, k3, k5, hC, T, _⟩ := F.cls
  refine wpAny_Call_Name_kw (ld_glob I hg hm ?_ hdb)
  refine PySem.W.callWith_K (h₀ := X.base) I.ok.mod.kin kC (thn (ha.run pos pins s σ H _ I h) fun us s1 ⟨vs, H1, I1, r1, hl, q1⟩ => ⟨I1.kIn, ?_⟩) he hpl
  show wpAny _ _ (call (.ref C) us) _ _ _
  obtain ⟨hp, g, dr, tk, os⟩ := s1
  have hlu : us.length = ys.length := r1.length.symm.trans hl
  have kk' : ∀ b o, hp.get? b = some o → ((hp.push (PySem.W.kdv_tup us)).push (PySem.HandSPX.excO C hp.objs.size)).get? b = some o := fun b o z => Heap.get?_push_of_some _ (Heap.get?_push_of_some _ z)
  have hx : ((hp.push (PySem.W.kdv_tup us)).push (PySem.HandSPX.excO C hp.objs.size)).get? (hp.objs.size + 1) = some (PySem.HandSPX.excO C hp.objs.size) := by heap_get
  obtain ⟨mb, hmb, hmb2⟩ := I1.ok.mod.blt
  have dp := hr.dp
  refine wpAny_call (PySem.XI.call_cls FN T (I1.kIn _ _ hC) (PySem.W.looks_findIn I1.kIn F.init) (fun self => PySem.W.bind_fn I1.kIn self F.tyI) (by rw [sizeLine_eq]; omega)
    (PySem.XI.enter_init (mg := X.mg) (mb := mb) F IF BF (hb us hlu (hp.objs.size + 1)) (by rw [make_depth]; omega) ((I1.ok.mod.nolimit.keeps I1.bk).keeps kk') (fun a o z => kk' a o (I1.kIn a o z)) ((I1.ok.mod.glob.keeps I1.bk).keeps kk') hsup ((hmb.keeps I1.bk).keeps kk') ((hmb2 _ (by decide)).trans (by first | rfl | decide +kernel | kernel_rfl)) hx htop nd hlu fun L cda h2 tk2 t1 k2' e2 n2 nL sL => ?_))
  have kAll : ∀ b o, hp.get? b = some o → h2.get? b = some o := fun b o z => k2' b o (Nat.ne_of_lt (Nat.lt_succ_of_lt (Heap.lt_size z))) (kk' b o z)
  refine hst _ L (hp.objs.size + 1) t1 cda us vs h2 g dr tk2 os _ [] hlu r1 (fun a o z => kAll a o (I1.kIn a o z)) (fun b o z => Nat.ne_of_lt (Nat.lt_succ_of_lt (Heap.lt_size (I1.kIn b o z)))) e2 n2 nL fun h3 tk3 dx mA k3' dn dne e3 n3 rel => ?_
  have sz : hp.objs.size ≤ h2.objs.size := Nat.le_of_lt (Nat.lt_trans (Nat.lt_succ_self _) (Heap.lt_size e2))
  have dnh := Nat.le_trans sz dn
  exact ⟨rfl, mkp_end I1 (Nat.le_succ _) dnh dne (fun b o z => k3' b o (Nat.ne_of_lt (Nat.lt_succ_of_lt (Heap.lt_size z))) (kAll b o z)) e3 n3 rel rs (q1 dx (I1.hok.fresh dnh))⟩
end
end DL

set_option Elab.async false
set_option linter.all false
set_option maxRecDepth 100000
set_option maxHeartbeats 2000000
/-! # Own exceptions: what is read off the written part -/
namespace DL
open PySem PySem.Spec PyProof.Rows L2
open PySem.XI (ClsF InitF BodyF supS excD Tail)
open He (ba eqO eqO_ok)
/-! ### the class's object -/
def keTail : List Value := [.type "KeyError", .type "LookupError", .type "Exception", .type "BaseException", .type "object"]
def veB (bm : List Value) : Bool := HandSPX.refsVE bm
def keB (bm : List Value) : Bool := decide (bm = keTail)
theorem veB_ok {bm : List Value} (h : veB bm = true) : Tail bm "ValueError" :=
  ⟨(HandSPX.refsVE_contains _ _ h).trans (by decide +kernel), (HandSPX.refsVE_contains _ _ h).trans (by decide +kernel), (HandSPX.refsVE_contains _ _ h).trans (by decide +kernel), (HandSPX.refsVE_contains _ _ h).trans (by decide +kernel), fun v => HandSPX.refsVE_pass v _ h⟩
theorem ke_pass (v : Value) : refuseLoop v "__setattr__" keTail = pure () := by kernel_rfl
theorem keB_ok {bm : List Value} (h : keB bm = true) : Tail bm "LookupError" := by
  obtain rfl : bm = keTail := of_decide_eq_true h
  exact ⟨by decide +kernel, by decide +kernel, by decide +kernel, by decide +kernel, ke_pass⟩
def objB (K : PySem.W.Frag) (C : Addr) (newId : String) (p : List Value → Bool) : Bool := match K.lookup C with
  | some ⟨.type t, _, .cls cd, sl⟩ => decide (t = "type") && (cd.hasDict && (!cd.hasDel && ((match cd.mro with
    | .ref D :: bm => decide (D = C) && p bm
    | _ => false) && (match sl.toList with
    | [_, _, _, _, some (.builtin n), _] => decide (n = newId)
    | _ => false))))
  | _ => false
theorem objB_ok {K : PySem.W.Frag} {C : Addr} {newId : String} {p : List Value → Bool} (h : objB K C newId p = true) :
    ∃ nm qn N bs bm sn sub ab col dd k0 k1 k2 k3 k5, K.lookup C = some (excClassObj nm qn C N bs bm true sn sub ab col dd k0 k1 k2 k3 k5 newId) ∧ p bm = true := by
  unfold objB at h
  split at h
  · rename_i t dd cd sl hk
    obtain ⟨h1, h⟩ := ba h
    obtain ⟨h2, h⟩ := ba h
    obtain ⟨h3, h⟩ := ba h
    obtain ⟨h4, h5⟩ := ba h
    obtain ⟨nm, bs, mro, ns, qn, hd, sn, sub, ab, col, del⟩ := cd
    have e1 : t = "type" := of_decide_eq_true h1
    have e2 : hd = true := h2
    have e3 : del = false := by
      have h3' : (!del) = true := h3
      cases del with
      | false => rfl
      | true => cases h3'
    subst e1 e2 e3
    split at h4
    · rename_i D bm hm
      have hm : mro = .ref D :: bm := hm
      obtain ⟨h6, h7⟩ := ba h4
      have e4 : D = C := of_decide_eq_true h6
      subst hm e4
      split at h5
      · rename_i k0 k1 k2 k3 n k5 hs
        have e5 : n = newId := of_decide_eq_true h5
        have e6 : sl = #[k0, k1, k2, k3, some (.builtin n), k5] := by
          obtain ⟨l⟩ := sl
          simp only at hs
          rw [hs]
        subst e5 e6
        exact ⟨nm, qn, ns, bs, bm, sn, sub, ab, col, dd, k0, k1, k2, k3, k5, hk, h7⟩
      · cases h5
    · cases h4
  · cases h
/-! ### its __init__ -/
def cloB (K : PySem.W.Frag) (C : Addr) (l : List (Str × Addr)) : Bool := match l with
  | [(n, cc)] => decide (n = "__class__") && (match K.lookup cc with
    | some ⟨_, _, .cell (some (.ref D)), _⟩ => decide (D = C)
    | _ => false)
  | _ => false
theorem cloB_ok {K : PySem.W.Frag} {C : Addr} {l : List (Str × Addr)} (h : cloB K C l = true) : ∃ cc cl cld csl, l = [(("__class__" : Str), cc)] ∧ K.lookup cc = some ⟨cl, cld, .cell (some (.ref C)), csl⟩ := by
  unfold cloB at h
  split at h
  · rename_i n cc
    obtain ⟨h1, h2⟩ := ba h
    have e : n = "__class__" := of_decide_eq_true h1
    subst e
    split at h2
    · rename_i cl cld D csl hk
      have e2 : D = C := of_decide_eq_true h2
      subst e2
      exact ⟨cc, cl, cld, csl, rfl, hk⟩
    · cases h2
  · cases h
abbrev FnI : Type := Option (Str × Str × Arguments × FuncBody × Scope × Addr × Bool × Value × Addr)
def obsI (K : PySem.W.Frag) (x : Str) : FnI := match K.lookup (He.fAd K (x, some "__init__")) with
  | some ⟨_, _, .func fd, _⟩ => some (fd.name, fd.qualname, fd.params, fd.body, fd.scope, fd.globals, cloB K (He.ga K x) fd.closure, fd.defaults, fd.builtins)
  | _ => none
def valI (q : Str) (st : Stmt) : FnI := some (("__init__" : Str), q, defArgs st, FuncBody.stmts (defBody st), defScope st, mainGlobals, true, .none, builtinsNs)
def codB (K : PySem.W.Frag) (fI : Addr) (q file : Str) : Bool := match K.lookup fI with
  | some ⟨_, _, .func fd, _⟩ => PySem.W.codeIn K fd.code q && (match fd.code with
    | .ref c => (match K.lookup c with
      | some ⟨_, _, .fields vs, _⟩ => (match (vs[2]? : Option Value) with
        | some (.str f _) => file == f
        | _ => false)
      | _ => false)
    | _ => false)
  | _ => false
theorem codB_ok {K : PySem.W.Frag} {fI : Addr} {q file : Str} {oc : Value} {od : Option Addr} {osl : Array (Option Value)} {fd : FuncData} (lk : K.lookup fI = some ⟨oc, od, .func fd, osl⟩) (h : codB K fI q file = true) :
    PySem.W.codeIn K fd.code q = true ∧ ∃ cda ccl cdd vs ccs f tf, fd.code = .ref cda ∧ K.lookup cda = some ⟨ccl, cdd, .fields vs, ccs⟩ ∧ vs[2]? = some (.str f tf) ∧ (file == f) = true := by
  unfold codB at h
  rw [lk] at h
  obtain ⟨h1, h2⟩ := ba h
  refine ⟨h1, ?_⟩
  split at h2
  · rename_i c hc
    split at h2
    · rename_i ccl cdd vs ccs hk
      split at h2
      · rename_i f tf hv
        exact ⟨c, ccl, cdd, vs, ccs, f, tf, hc, hk, hv, h2⟩
      · cases h2
    · cases h2
  · cases h2
/-- all of it but the def's text -/
def excB (K : PySem.W.Frag) (file x q : Str) (newId initId BI : String) (p : List Value → Bool) (fs : List Str) : Bool :=
  objB K (He.ga K x) newId (fun bm => p bm && eqO (PySem.W.alongIn K "__init__" bm) (some (some (.builtin initId)))) &&
  (eqO (PySem.W.findIn K (.ref (He.ga K x)) "__init__") (some (some (.ref (He.fAd K (x, some "__init__"))))) &&
  (decide (PySem.W.typeIn K (.ref (He.fAd K (x, some "__init__"))) = some (.type "function")) &&
  (codB K (He.fAd K (x, some "__init__")) q file &&
  (eqO (PySem.W.nsIn K cStatics "thirdparty.any") (some none) &&
  (eqO (PySem.W.findIn K (.ref (He.ga K x)) "__setattr__") (some (some (.builtin "object.__setattr__"))) &&
  (decide (PySem.W.subIn K (.ref (He.ga K x)) (.type BI) = some true) &&
  (decide (PySem.W.mroIn K (He.ga K x) (.ref (He.ga K x)) = some true) &&
  (fs.all (fun f => eqO (PySem.W.findIn K (.ref (He.ga K x)) f) (some none)) &&
  (decide (PySem.W.subIn K (.ref (He.ga K x)) (.type "BaseException") = some true) &&
  (decide (PySem.W.typeIn K (.ref (He.ga K x)) = some (.type "type")) &&
  PySem.W.keepIn K (.ref (He.ga K x))))))))))))
structure ExcF (P : Program) (K : PySem.W.Frag) (x q : Str) (st : Stmt) (BN newId BI initId : String) (fs : List Str) : Prop where
  cls : ∃ cc, ClsF P K (He.ga K x) (He.fAd K (x, some "__init__")) cc q (defArgs st) (defBody st) (defScope st) BN newId BI initId
  no : ∀ f ∈ fs, PySem.W.findIn K (.ref (He.ga K x)) f = some none
  exC : PySem.W.subIn K (.ref (He.ga K x)) (.type "BaseException") = some true
  tyC : PySem.W.typeIn K (.ref (He.ga K x)) = some (.type "type")
  kC : PySem.W.keepIn K (.ref (He.ga K x)) = true
theorem excB_ok {P : Program} {K : PySem.W.Frag} {x q : Str} {st : Stmt} {BN newId initId BI : String} {p : List Value → Bool} {fs : List Str} (ht : ∀ bm, p bm = true → Tail bm BN) (e : obsI K x = valI q st) (h : excB K P.main.file x q newId initId BI p fs = true) : ExcF P K x q st BN newId BI initId fs := by
  obtain ⟨h1, h⟩ := ba h
  obtain ⟨h2, h⟩ := ba h
  obtain ⟨h3, h⟩ := ba h
  obtain ⟨h4, h⟩ := ba h
  obtain ⟨h5, h⟩ := ba h
  obtain ⟨h6, h⟩ := ba h
  obtain ⟨h7, h⟩ := ba h
  obtain ⟨h8, h⟩ := ba h
  obtain ⟨h9, h⟩ := ba h
  obtain ⟨h10, h⟩ := ba h
  obtain ⟨h11, h12⟩ := ba h
  unfold obsI at e
  cases lk : K.lookup (He.fAd K (x, some "__init__")) with
  | none =>
    rw [lk] at e
    cases e
  | some o =>
    obtain ⟨oc, od, dt, osl⟩ := o
    rw [lk] at e
    cases dt with
    | func fd =>
      obtain ⟨k1, cda, ccl, cdd, vs, ccs, f, tf, k2, k3, k4, k5⟩ := codB_ok lk h4
      obtain ⟨n1, n2, n3, n4, n5, n6, n7, n8, n9, n10, n11, n12, n13, n14, n15⟩ := fd
      have e2 : (some (n1, n2, n3, n4, n5, n6, cloB K (He.ga K x) n7, n8, n15) : FnI) = some (("__init__" : Str), q, defArgs st, FuncBody.stmts (defBody st), defScope st, mainGlobals, true, .none, builtinsNs) := e
      simp only [Option.some.injEq, Prod.mk.injEq] at e2
      obtain ⟨g1, g2, g3, g4, g5, g6, g7, g8, g9⟩ := e2
      have k1 : PySem.W.codeIn K n13 q = true := k1
      have k2 : n13 = .ref cda := k2
      subst g1 g2 g3 g4 g5 g6 g8 g9 k2
      obtain ⟨cc, cl, cld, csl, rfl, c2⟩ := cloB_ok g7
      obtain ⟨nm, qn, N, bs, bm, sn, sub, ab, col, dd, j0, j1, j2, j3, j5, hC, hp⟩ := objB_ok h1
      obtain ⟨p1, p2⟩ := ba hp
      refine ⟨⟨cc, ⟨⟨nm, qn, N, bs, bm, sn, sub, ab, col, dd, j0, j1, j2, j3, j5, hC, ht bm p1, eqO_ok p2⟩, eqO_ok h2, of_decide_eq_true h3, ⟨oc, od, osl, n9, n10, n11, n12, cda, n14, ccl, cdd, vs, ccs, f, tf, lk, k1, k3, k4, k5⟩, ⟨cl, cld, csl, c2⟩, eqO_ok h5, eqO_ok h6, of_decide_eq_true h7, of_decide_eq_true h8⟩⟩,
        fun f hf => eqO_ok (List.all_eq_true.mp h9 f hf), of_decide_eq_true h10, of_decide_eq_true h11, h12⟩
    | _ => cases e
/-! ### raise x(..) -/
section
variable {g : Gb}
/-- what a statement of stores does: names ys of the arguments into fields ys -/
def StoresF (P : Program) (w : World) (K : PySem.W.Frag) (C fI cc : Addr) (q : Str) (scope : Scope) (ys : List Str) (rest : List Stmt) : Prop :=
  ∀ (A : Around) (L a t1 cda : Addr) (us : List Value) (vs : List V) (h2 : Heap) (g : Array GenState) (d : Drawn) (tk : Nat) (os : OsState) (Q : Flow → Shared → Prop) (fs : List (Str × V)), us.length = ys.length → Vals vs us → K.In h2 → (∀ b o, K.lookup b = some o → b ≠ a) → h2.get? a = some (PySem.HandSPX.excO C t1) → h2.Ns L (fun z => ((("self" : Str) :: ys).zip (.ref a :: us)).reverse.lookup z) → L ≠ a →
    (∀ h' tk' dx mA, (∀ b o, b ≠ a → h2.get? b = some o → h'.get? b = some o) → h2.objs.size ≤ dx → dx ≠ a → h'.get? a = some (excD C t1 dx) → h'.Ns1 dx mA → (∀ f, RelO ((ys.zip vs).lookup f) (mA f)) → Q .next ⟨h', g, d, tk', os⟩) →
    wpAny (model P w) A (execs rest (PySem.W.ksEnv q scope L fI (.ref cda) cc)) Q (fun _ _ => False) ⟨h2, g, d, tk, os⟩
theorem raise_of {x q : Str} {st : Stmt} {BN newId BI initId iN : String} {bN : List Value} {ys : List Str} {m : Str} {kk : Nat} {p1 p2 p3 p4 p5 p6 : Pos} {rest : List Stmt} (T : g.K.In g.base ∧ g.base.Ns mainGlobals g.mg) (F : ExcF g.P g.K x q st BN newId BI initId ys) (FN : ExcBaseFacts BN newId iN bN) (IF : InitF BI initId)
    (hbd : defBody st = supS m kk p1 p2 p3 p4 p5 p6 :: rest) (BF : BodyF q (defArgs st) (defScope st) ys m kk p1 p2 p3 p4 p5 p6)
    (hb : ∀ (us : List Value), us.length = ys.length → ∀ (a : Addr) (kV doc pm : Value) (an : Option Addr) (cdv ct : Value) (c2 : Addr), bindArgs (PySem.W.ksFn "__init__" q (defArgs st) (supS m kk p1 p2 p3 p4 p5 p6 :: rest) (defScope st) .none kV doc pm an cdv ct c2) ⟨.ref a :: us, []⟩ = pure ((("self" : Str) :: ys).zip (.ref a :: us)))
    (nd : (("self" : Str) :: ys).Nodup) (h8 : ys.length ≤ 8) (hm : g.mg x = some (.ref (He.ga g.K x))) (hsup : g.mg "super" = none) (htop : (g.P.main.scope.names.lookup ("super" : Str)).isSome = false)
    (hst : ∀ cc, ClsF g.P g.K (He.ga g.K x) (He.fAd g.K (x, some "__init__")) cc q (defArgs st) (supS m kk p1 p2 p3 p4 p5 p6 :: rest) (defScope st) BN newId BI initId → StoresF g.P g.w g.K (He.ga g.K x) (He.fAd g.K (x, some "__init__")) cc q (defScope st) ys rest) (hdb : (x == ("__debug__" : Str)) = false := by decide) : RaiseOk g x ys := by
  intro c δ M O a es p pos pos2 hk hg htp he hpl h X F0 G F1 σ H eF sto sl
  obtain ⟨cc, CF⟩ := F.cls
  rw [hbd] at CF
  have CFX : ClsF X.prog X.K (He.ga g.K x) (He.fAd g.K (x, some "__init__")) cc q (defArgs st) (supS m kk p1 p2 p3 p4 p5 p6 :: rest) (defScope st) BN newId BI initId := by
    rw [G.prog, G.K]
    exact CF
  have SX : StoresF X.prog X.w X.K (He.ga g.K x) (He.fAd g.K (x, some "__init__")) cc q (defScope st) ys rest := by
    rw [G.prog, G.w, G.K]
    exact hst cc CF
  refine wS_of (ps_raise G.calm G.takes (pmk_x (X := X) (ta := wA X (a :: es)) CFX FN IF BF hb nd h8 (G.room.mono hk) (G.gl hg) (by rw [G.mg]; exact hm) (by rw [G.K]; exact F.kC) (by rw [G.mg]; exact hsup) (by rw [G.prog]; exact htop) pa_wA SX (raises_own (by rw [G.K]; exact F.exC) (by rw [G.K]; exact F.tyC)) hdb (he X.env) (hpl X.env))) ?_
  refine wA_mono (h X F0 G F1 σ H eF sto sl) fun vs H1 qq => ?_
  obtain ⟨F2, M2, ds, e2, s2, r, hl, hE⟩ := qq
  refine ⟨r.length.trans hl, fun dx hd => ?_⟩
  obtain ⟨e3, s3⟩ := s2.frozen (o := .xd (ys.zip vs)) hd
  exact ⟨He.ga g.K x, dx, ys, vs, ds, _, δ, M2, rfl, rfl, eF.trans (e2.trans e3), s3, sl.mono (e2.trans e3), upd_same, hl.symm, r.mono e3, hE⟩
end
end DL

set_option Elab.async false
set_option linter.all false
set_option maxRecDepth 100000
set_option maxHeartbeats 0
/-! # The head: what is read off the heap behind the top -/
namespace DL
open PySem PySem.Spec PyProof.Rows L2
open He (ba eqO eqO_ok)
def plains : List Str := ["undo", "redo", "who", "cells", "first", "deeds", "left", "anew"]
abbrev pB : He.Defn := ("_law_bad_lines_right", none)
abbrev pX : He.Defn := ("_law_texts_right", none)
abbrev emptyT : Obj := { cls := .none, data := .fields #[] }
abbrev theP : Program := PySem.Challenge.pw_logsapart_k55_whole_a_desk_of_one_store
def tfM : List He.Defn := [pB, pX]
def xcs : List (Str × Str × Stmt) := [("BadText", "BadText.__init__", inClass (topS 3) 0), ("Refused", "Refused.__init__", inClass (topS 4) 0), ("NoTelling", "NoTelling.__init__", inClass (topS 6) 0), ("NoHand", "NoHand.__init__", inClass (topS 7) 0)]
def exM (K : PySem.W.Frag) : Bool :=
  (excB K theP.main.file "BadText" "BadText.__init__" "ValueError.__new__" "ValueError.__init__" "ValueError" veB ["at"]) &&
  ((excB K theP.main.file "Refused" "Refused.__init__" "ValueError.__new__" "ValueError.__init__" "ValueError" veB ["at"]) &&
  ((excB K theP.main.file "NoTelling" "NoTelling.__init__" "ValueError.__new__" "ValueError.__init__" "ValueError" veB ["top", "bottom"]) &&
  ((excB K theP.main.file "NoHand" "NoHand.__init__" "LookupError.__new__" "KeyError.__init__" "KeyError" keB ["hand"]) &&
  ((xfB K (He.ga K "BadText")) &&
  ((xfB K (He.ga K "NoTelling")) &&
  ((decide (PySem.W.exmOne K (.ref (He.ga K "BadText")) (.ref (He.ga K "BadText")) = some true)) &&
  ((decide (PySem.W.exmOne K (.ref (He.ga K "NoTelling")) (.ref (He.ga K "BadText")) = some false)) &&
  ((decide (PySem.W.exmOne K (.ref (He.ga K "NoTelling")) (.ref (He.ga K "NoTelling")) = some true)) &&
  ((decide (PySem.W.exmAny K (.ref (He.ga K "Refused")) [.ref (He.ga K "LogError"), .type "KeyError"] = some true)) &&
  ((decide (PySem.W.exmAny K (.ref (He.ga K "NoHand")) [.ref (He.ga K "LogError"), .type "KeyError"] = some true)) &&
  ((eqO (PySem.W.nsIn K mainGlobals "PLAIN") (some (some (.ref (He.ga K "PLAIN"))))) &&
  ((He.tupB K "PLAIN" (plains.map He.Dv.str)) &&
  (!decide (He.tabOf K (He.codeOf K pB) = He.tabOf K (He.codeOf K pX)))))))))))))))
/-- what is looked at: what the names reach, and the interpreter's own statics -/
def stepA (g : Addr → Option Obj) (a : Addr) : List Addr := match g a with
  | some ⟨_, _, .dict es _, _⟩ => es.toList.flatMap fun e => He.refV e.val
  | some ⟨_, _, .cls cd, _⟩ => [cd.ns]
  | some ⟨_, _, .func fd, _⟩ => He.refV fd.code ++ fd.closure.map (·.2)
  | _ => []
def stepN (g : Addr → Option Obj) : Nat → List Addr → List Addr
  | 0, _ => []
  | n + 1, l => l ++ stepN g n (l.flatMap (stepA g))
def asM (g : Addr → Option Obj) (n : Nat) : List Addr := stepN g n [mainGlobals] ++ [cStatics]
abbrev AlM : Type := He.AlX × List FnI
def obsK (g : Addr → Option Obj) (K : PySem.W.Frag) : AlM := ((He.obsT faL fnL [] K, exM K && He.tabsB g tfM K), xcs.map fun x => obsI K x.1)
def obsM (n : Nat) (g : Addr → Option Obj) : AlM := obsK g (He.frT g (asM g n))
def valM (w : World) : AlM := (He.valX fnL [] w, xcs.map fun x => valI x.2.1 x.2.2)
structure SaysM (w : World) (h : Heap) (K : PySem.W.Frag) : Prop where
  t : He.SaysT faL fnL [] w K
  more : exM K = true
  hd : ∀ p ∈ tfM, PySem.W.codeHdIn K (He.cT K p).1 (He.cT K p).2 = true
  out : ∀ p ∈ tfM, K.lookup (He.cT K p).2 = none
  empty : ∀ p ∈ tfM, h.get? (He.cT K p).2 = some emptyT
  ini : xcs.map (fun x => obsI K x.1) = xcs.map fun x => valI x.2.1 x.2.2
theorem saysM_of {n : Nat} {w : World} {h : Heap} (e : obsM n h.get? = valM w) : SaysM w h (He.frT h.get? (asM h.get? n)) := by
  have e1 := congrArg (fun z : AlM => z.1.1) e
  have e2 : (exM (He.frT h.get? (asM h.get? n)) && He.tabsB h.get? tfM (He.frT h.get? (asM h.get? n))) = true := congrArg (fun z : AlM => z.1.2) e
  have e3 := congrArg (fun z : AlM => z.2) e
  obtain ⟨h1, h2⟩ := ba e2
  have key : ∀ p ∈ tfM, PySem.W.codeHdIn (He.frT h.get? (asM h.get? n)) (He.cT (He.frT h.get? (asM h.get? n)) p).1 (He.cT (He.frT h.get? (asM h.get? n)) p).2 = true ∧ ∃ o, h.get? (He.cT (He.frT h.get? (asM h.get? n)) p).2 = some o ∧ He.emptyTab o = true := fun p hp => by
    obtain ⟨h3, h4⟩ := ba (List.all_eq_true.mp h2 p hp)
    refine ⟨h3, ?_⟩
    cases q : h.get? (He.cT (He.frT h.get? (asM h.get? n)) p).2 with
    | none =>
      rw [q] at h4
      cases h4
    | some o =>
      rw [q] at h4
      exact ⟨o, rfl, h4⟩
  refine ⟨e1, h1, fun p hp => (key p hp).1, fun p hp => ?_, fun p hp => ?_, e3⟩
  · obtain ⟨_, o, q, z⟩ := key p hp
    exact He.frT_none q z
  · obtain ⟨_, o, q, z⟩ := key p hp
    rw [q, He.emptyTab_eq z]
def hookM (n : Nat) : PySem.W.Hook where
  α := AlM
  obs := fun s => obsM n s.heap.get?
  val := fun w => valM w
  says := fun w h => ∃ K : PySem.W.Frag, K.In h ∧ SaysM w h K
  of := fun _ _ e => ⟨_, He.frT_in, saysM_of e⟩
  keeps := fun _ _ _ ⟨K, hK, c⟩ k => ⟨K, PySem.W.Frag.In.keeps hK k, ⟨c.t, c.more, c.hd, c.out, fun p hp => k _ _ (c.empty p hp), c.ini⟩⟩
theorem obsM_eq {n : Nat} {g : Addr → Option Obj} {s : Shared} (h : ∀ a, g a = s.heap.get? a) : obsM n g = (hookM n).obs s := by
  have e : g = s.heap.get? := funext h
  rw [e] <;> rfl
abbrev theR : PySem.W.OpenRow := PySem.W.OpenLaw.row PySem.Challenge.rw_logsapart_k55_whole_a_desk_of_one_store
def looseN0 : List Str := ["LogError", "BadHands", "BadText", "Refused", "TooGreat", "NoTelling", "NoHand", "MOST_HANDS", "MOST_MARKS", "MOST_STORY", "is_integer", "is_number", "is_below", "is_within", "is_sequence", "is_text", "common_divisor", "common_multiple", "least_terms", "check_marks", "Hands", "sum_of_parts", "share", "need_telling", "need_hand", "MOST_SIZE", "laid_out", "stretch_with", "Dial", "place_of"]
def looseN1 : List Str := ["turned_mark", "acted", "marks_at", "struck_back", "MOST_CELLS", "MOST_WORTH", "check_cells", "with_number", "marks_of", "last_entries", "hand_behind", "entered", "taken", "Store", "is_entry", "entry_logs", "check_sheet", "walked", "ways_of", "deeds_of", "store_of", "HEAD", "NONE", "numbers_text", "read_number", "read_hands", "FIGURES", "MOST_FIGURES", "CELLS", "PLAIN"]
def looseN2 : List Str := ["told_number", "rows_text", "hand_text", "read_store", "Desk", "_law_box", "_law_take", "_law_pick", "_law_mixed", "_law_marks", "_law_size", "_law_heads", "_law_entered", "_law_led", "_law_row", "_law_rows", "_law_hand", "_law_fault", "_law_cells", "_law_asked_right", "_law_moved", "_law_bad_lines_right", "_law_texts_right"]
def looseN : List Str := looseN0 ++ looseN1 ++ looseN2
def obM (s : PySem.W.SharedT) : AlM := obsM 5 (HandSHeadRun.getT s)
theorem obM_eq (s : PySem.W.SharedT) : obM s = (hookM 5).obs s.abs := obsM_eq (HandSHeadRun.getT_eq s)
theorem runM (w : World) : HandSHeadRun.RunEq theR (PySem.W.view theR.prog [92]) (hookM 5) obM 20000 looseN w := by
  intro os
  kernel_rfl
end DL

set_option Elab.async false
set_option linter.all false
set_option maxRecDepth 100000
set_option maxHeartbeats 1000000
/-! # The D-layer, part 10: short words for the values that come up -/
namespace DL
open PySem PySem.Spec PyProof.Rows L2
open Evl (Ex)
variable {g : Gb} {c : Cz} {δ : Sl} {M : Mem} {Q : D → Mem → Prop} {R : Bool → Mem → Prop} {O : Od} {pos : Pos} {a b e : Expr} {rest es : List Expr} {st : Stmt} {sts : List Stmt} {x : Str} {p apos : Pos} {i j : Int} {xs ys ds : List D} {q : Addr}

theorem v_add_int (q : Q (.int (i + j)) M) : AddD (.int i) (.int j) M Q := q
theorem v_add_str {s t : Str} (h : s.length + t.length ≤ sizeLine) (q : Q (.str (s ++ t)) M) : AddD (.str s) (.str t) M Q := ⟨h, q⟩
theorem v_add_tup (h : xs.length + ys.length ≤ sizeLine) (q : Q (.tup (xs ++ ys)) M) : AddD (.tup xs) (.tup ys) M Q := ⟨h, q⟩
theorem v_add_lst (h : xs.length + ys.length ≤ sizeLine) (q : Q (.lst (xs ++ ys)) M) : AddD (.lst xs) (.lst ys) M Q := ⟨xs, ys, rfl, rfl, h, q⟩
theorem v_sub_int (q : Q (.int (i - j)) M) : SubD (.int i) (.int j) M Q := q
theorem v_mul_int (h : (-(2 ^ 64) < i ∧ i < 2 ^ 64) ∨ (-(2 ^ 64) < j ∧ j < 2 ^ 64)) (q : Q (.int (i * j)) M) : MulD (.int i) (.int j) M Q := ⟨h, q⟩
theorem v_mod_int (h : 0 < j) (q : Q (.int (i % j)) M) : ModD (.int i) (.int j) M Q := ⟨h, q⟩
theorem v_fdiv_int (h : 0 < j) (h2 : j < 1073741824) (q : Q (.int (i / j)) M) : FdivD (.int i) (.int j) M Q := ⟨⟨h, h2⟩, q⟩
theorem v_neg_int (q : Q (.int (-i)) M) : NegD (.int i) M Q := q
theorem v_cmp_int {f : Int → Int → Bool} (q : Q (.bl (f i j)) M) : IntD f (.int i) (.int j) M Q := q
theorem v_eq_int {f : Bool → Bool} (q : Q (.bl (f (decide (i = j)))) M) : EqD f (.int i) (.int j) M Q := q
theorem v_eq_str {f : Bool → Bool} {s t : Str} (q : Q (.bl (f (decide (s = t)))) M) : EqD f (.str s) (.str t) M Q := q
theorem v_bl {k : Bool} (q : R k M) : BlD R (.bl k) M := q
theorem v_ix_tup {d : D} (h : atI ds i = some d) (q : Q d M) : IxD (.tup ds) (.int i) M Q := ⟨ds, d, rfl, h, q⟩
theorem v_ix_lst {d : D} (h : atI ds i = some d) (q : Q d M) : IxD (.lst ds) (.int i) M Q := ⟨ds, d, rfl, h, q⟩
theorem v_ix_fro {d : D} (h : atI ds i = some d) (q : Q d M) : IxD (.fro ds) (.int i) M Q := ⟨ds, d, rfl, h, q⟩
theorem v_ix_ref {d : D} {p : Addr} (hm : M p = some (.lst ds)) (h : atI ds i = some d) (q : Q d M) : IxD (.ref p) (.int i) M Q := ⟨ds, d, hm, h, q⟩
theorem v_len_str {z : Str} (h : z.length ≤ sizeLine) (q : Q (.int z.length) M) : LenD (.str z) M Q := ⟨h, q⟩
theorem v_len_tup (q : Q (.int ds.length) M) : LenD (.tup ds) M Q := ⟨ds, rfl, q⟩
theorem v_len_lst (q : Q (.int ds.length) M) : LenD (.lst ds) M Q := ⟨ds, rfl, q⟩
theorem v_len_fro (q : Q (.int ds.length) M) : LenD (.fro ds) M Q := ⟨ds, rfl, q⟩
theorem v_len_ref {p : Addr} (hm : M p = some (.lst ds)) (q : Q (.int ds.length) M) : LenD (.ref p) M Q := ⟨ds, hm, q⟩
theorem v_sl_tup {lo hi : Option Int} (q : Q (.tup (cutD ds lo hi)) M) : SliD (.tup ds) lo hi M Q := q
theorem v_sl_lst {lo hi : Option Int} (q : Q (.lst (cutD ds lo hi)) M) : SliD (.lst ds) lo hi M Q := ⟨ds, rfl, q⟩
theorem v_sl_str {z : Str} {lo hi : Option Int} (h : z.length ≤ sizeLine) (q : Q (.str (cutS z lo hi)) M) : SliD (.str z) lo hi M Q := ⟨h, q⟩
theorem v_o_none {QO : Option Int → Mem → Prop} (q : QO none M) : OX g c none δ M QO := q
theorem v_o_some {e : Expr} {QO : Option Int → Mem → Prop} (h : EX g c e δ M fun d M1 => ∃ i, d = .int i ∧ QO (some i) M1) : OX g c (some e) δ M QO := h
theorem v_io {d : D} {P : Int → Prop} (h : d = .int i) (q : P i) : ∃ i, d = .int i ∧ P i := ⟨i, h, q⟩
theorem sIx_some {n d : Nat} {v : Int} : HT.sIx n d (some v) = if v < 0 then (v + (n : Int)).toNat else min v.toNat n := rfl
/-- slices of lists -/
theorem cut_take {n : Nat} (h : n ≤ xs.length) : cutD xs none (some (n : Int)) = xs.take n := by
  have e1 : HT.sIx xs.length 0 none = 0 := rfl
  have e2 : HT.sIx xs.length xs.length (some (n : Int)) = n := by
    rw [sIx_some]
    split <;> omega
  unfold cutD
  rw [e1, e2]
  simp
theorem cut_drop {n : Nat} (h : n ≤ xs.length) : cutD xs (some (n : Int)) none = xs.drop n := by
  have e1 : HT.sIx xs.length xs.length none = xs.length := rfl
  have e2 : HT.sIx xs.length 0 (some (n : Int)) = n := by
    rw [sIx_some]
    split <;> omega
  unfold cutD
  rw [e1, e2, List.take_of_length_le]
  rw [List.length_drop]
  exact Nat.le_refl _
theorem cut_take_all {n : Nat} (h : xs.length ≤ n) : cutD xs none (some (n : Int)) = xs := by
  have e1 : HT.sIx xs.length 0 none = 0 := rfl
  have e2 : HT.sIx xs.length xs.length (some (n : Int)) = xs.length := by
    rw [sIx_some]
    split <;> omega
  unfold cutD
  rw [e1, e2]
  simp
theorem cut_drop_all {n : Nat} (h : xs.length ≤ n) : cutD xs (some (n : Int)) none = [] := by
  have e1 : HT.sIx xs.length xs.length none = xs.length := rfl
  have e2 : HT.sIx xs.length 0 (some (n : Int)) = xs.length := by
    rw [sIx_some]
    split <;> omega
  unfold cutD
  rw [e1, e2]
  simp
theorem cut_last : cutD xs none (some (-1)) = xs.take (xs.length - 1) := by
  have e1 : HT.sIx xs.length 0 none = 0 := rfl
  have e2 : HT.sIx xs.length xs.length (some (-1)) = xs.length - 1 := by
    rw [sIx_some]
    split <;> omega
  unfold cutD
  rw [e1, e2]
  simp
theorem cut_end : cutD xs (some (-1)) none = xs.drop (xs.length - 1) := by
  have e1 : HT.sIx xs.length xs.length none = xs.length := rfl
  have e2 : HT.sIx xs.length 0 (some (-1)) = xs.length - 1 := by
    rw [sIx_some]
    split <;> omega
  unfold cutD
  rw [e1, e2, List.take_of_length_le]
  rw [List.length_drop]
  exact Nat.le_refl _
theorem atI_nat {α : Type} {l : List α} {n : Nat} {d : α} (h : l[n]? = some d) : atI l (n : Int) = some d := by
  unfold atI
  have hn := (List.getElem?_eq_some_iff.mp h).1
  have e : ixN l.length (n : Int) = some n := by
    unfold ixN
    rw [if_pos (Int.natCast_nonneg n), if_pos (by omega)]
    rfl
  rw [e]
  exact h
theorem atI_last {α : Type} {l : List α} {d : α} : atI (l ++ [d]) (-1) = some d := by
  unfold atI ixN
  rw [List.length_append, List.length_singleton, if_neg (by decide)]
  have h : (l.length + 1 : Nat) ≥ 1 := by omega
  split
  · rename_i h2
    show (l ++ [d])[_]? = _
    rw [show ((-1 + ((l.length + 1 : Nat) : Int)).toNat) = l.length by omega]
    simp
  · rename_i h2
    exact absurd (by omega) h2
/-- arguments -/
theorem ax3 {QA : List D → Mem → Prop} {a b e : Expr} (h : EX g c a δ M fun d M1 => EX g c b δ M1 fun d' M2 => EX g c e δ M2 fun d'' M3 => QA [d, d', d''] M3) (hs : ∀ env, starEach [a, b, e] env = (false, eval a env) :: starEach [b, e] env := by intro _; rfl) (hs2 : ∀ env, starEach [b, e] env = (false, eval b env) :: starEach [e] env := by intro _; rfl) (hs3 : ∀ env, starEach [e] env = (false, eval e env) :: starEach [] env := by intro _; rfl) : AX g c [a, b, e] δ M QA :=
  ax_cons (EX.imp h fun _ _ q => ax2 q hs2 hs3) hs
theorem ax4 {QA : List D → Mem → Prop} {a b e f : Expr} (h : EX g c a δ M fun d M1 => EX g c b δ M1 fun d' M2 => EX g c e δ M2 fun d'' M3 => EX g c f δ M3 fun d3 M4 => QA [d, d', d'', d3] M4) (hs : ∀ env, starEach [a, b, e, f] env = (false, eval a env) :: starEach [b, e, f] env := by intro _; rfl) (hs2 : ∀ env, starEach [b, e, f] env = (false, eval b env) :: starEach [e, f] env := by intro _; rfl) (hs3 : ∀ env, starEach [e, f] env = (false, eval e env) :: starEach [f] env := by intro _; rfl) (hs4 : ∀ env, starEach [f] env = (false, eval f env) :: starEach [] env := by intro _; rfl) : AX g c [a, b, e, f] δ M QA :=
  ax_cons (EX.imp h fun _ _ q => ax3 q hs2 hs3 hs4) hs
theorem ax5 {QA : List D → Mem → Prop} {a b e f h : Expr} (hh : EX g c a δ M fun d M1 => EX g c b δ M1 fun d' M2 => EX g c e δ M2 fun d'' M3 => EX g c f δ M3 fun d3 M4 => EX g c h δ M4 fun d4 M5 => QA [d, d', d'', d3, d4] M5) (hs : ∀ env, starEach [a, b, e, f, h] env = (false, eval a env) :: starEach [b, e, f, h] env := by intro _; rfl) (hs2 : ∀ env, starEach [b, e, f, h] env = (false, eval b env) :: starEach [e, f, h] env := by intro _; rfl) (hs3 : ∀ env, starEach [e, f, h] env = (false, eval e env) :: starEach [f, h] env := by intro _; rfl) (hs4 : ∀ env, starEach [f, h] env = (false, eval f env) :: starEach [h] env := by intro _; rfl) (hs5 : ∀ env, starEach [h] env = (false, eval h env) :: starEach [] env := by intro _; rfl) : AX g c [a, b, e, f, h] δ M QA :=
  ax_cons (EX.imp hh fun _ _ q => ax4 q hs2 hs3 hs4 hs5) hs
/-- a test whose answer is known -/
theorem cnd_t {k : Bool} {A B : Prop} (h : k = true) (q : A) : cond k A B := by
  subst h
  exact q
theorem cnd_f {k : Bool} {A B : Prop} (h : k = false) (q : B) : cond k A B := by
  subst h
  exact q
theorem cnd_p {p : Prop} [Decidable p] {A B : Prop} (h1 : p → A) (h2 : ¬ p → B) : cond (decide p) A B := by
  by_cases h : p
  · exact cnd_t (decide_eq_true h) (h1 h)
  · exact cnd_f (decide_eq_false h) (h2 h)
theorem cnd_pt {p : Prop} [Decidable p] {A B : Prop} (h : p) (q : A) : cond (decide p) A B := cnd_t (decide_eq_true h) q
theorem cnd_pf {p : Prop} [Decidable p] {A B : Prop} (h : ¬ p) (q : B) : cond (decide p) A B := cnd_f (decide_eq_false h) q
theorem v_ch {f f' : Int → Int → Bool} {d : Expr} (h1 : f i j = true → EX g c d δ M fun z M1 => ∃ k, z = .int k ∧ R (f' j k) M1) (h2 : f i j = false → R false M) : ChD g c δ f f' d (.int i) (.int j) M R := ⟨i, j, rfl, rfl, cnd h1 h2⟩
/-! natural numbers -/
section
variable {m n : Nat}
theorem v_add_nat (q : Q (.int ((m + n : Nat) : Int)) M) : AddD (.int (m : Int)) (.int (n : Int)) M Q := q
theorem v_sub_nat (h : n ≤ m) (q : Q (.int ((m - n : Nat) : Int)) M) : SubD (.int (m : Int)) (.int (n : Int)) M Q := by
  show Q (.int ((m : Int) - (n : Int))) M
  rw [← Int.ofNat_sub h]
  exact q
theorem v_mul_nat (h : m < 2 ^ 64 ∨ n < 2 ^ 64) (q : Q (.int ((m * n : Nat) : Int)) M) : MulD (.int (m : Int)) (.int (n : Int)) M Q := by
  refine ⟨?_, q⟩
  have e : ((2 ^ 64 : Nat) : Int) = 2 ^ 64 := by decide
  rcases h with h | h
  · exact .inl ⟨by omega, by omega⟩
  · exact .inr ⟨by omega, by omega⟩
theorem v_mod_nat (h : 0 < n) (q : Q (.int ((m % n : Nat) : Int)) M) : ModD (.int (m : Int)) (.int (n : Int)) M Q := ⟨by omega, q⟩
theorem v_fdiv_nat (h : 0 < n) (h2 : n < 1073741824) (q : Q (.int ((m / n : Nat) : Int)) M) : FdivD (.int (m : Int)) (.int (n : Int)) M Q := ⟨⟨by omega, by omega⟩, q⟩
theorem dec_nat {p q : Prop} [Decidable p] [Decidable q] (h : p ↔ q) : decide p = decide q := by
  by_cases hp : p
  · rw [decide_eq_true hp, decide_eq_true (h.mp hp)]
  · rw [decide_eq_false hp, decide_eq_false fun z => hp (h.mpr z)]
theorem v_lt_nat (q : Q (.bl (decide (m < n))) M) : IntD (fun i j => decide (i < j)) (.int (m : Int)) (.int (n : Int)) M Q := by
  show Q (.bl (decide ((m : Int) < (n : Int)))) M
  rw [dec_nat (Int.ofNat_lt (n := m) (m := n))]
  exact q
theorem v_le_nat (q : Q (.bl (decide (m ≤ n))) M) : IntD (fun i j => decide (i ≤ j)) (.int (m : Int)) (.int (n : Int)) M Q := by
  show Q (.bl (decide ((m : Int) ≤ (n : Int)))) M
  rw [dec_nat (Int.ofNat_le (m := m) (n := n))]
  exact q
theorem v_gt_nat (q : Q (.bl (decide (n < m))) M) : IntD (fun i j => decide (j < i)) (.int (m : Int)) (.int (n : Int)) M Q := by
  show Q (.bl (decide ((n : Int) < (m : Int)))) M
  rw [dec_nat (Int.ofNat_lt (n := n) (m := m))]
  exact q
theorem v_ge_nat (q : Q (.bl (decide (n ≤ m))) M) : IntD (fun i j => decide (j ≤ i)) (.int (m : Int)) (.int (n : Int)) M Q := by
  show Q (.bl (decide ((n : Int) ≤ (m : Int)))) M
  rw [dec_nat (Int.ofNat_le (m := n) (n := m))]
  exact q
theorem v_eq_nat {f : Bool → Bool} (q : Q (.bl (f (decide (m = n)))) M) : EqD f (.int (m : Int)) (.int (n : Int)) M Q := by
  show Q (.bl (f (decide ((m : Int) = (n : Int))))) M
  rw [dec_nat (Int.ofNat_inj (m := m) (n := n))]
  exact q
end
end DL

set_option Elab.async false
set_option linter.all false
set_option maxRecDepth 100000
set_option maxHeartbeats 1000000
/-! # The program's defs: words -/
namespace DL
open PySem PySem.Spec PyProof.Rows L2
open Evl (Ex)
local macro_rules | `(tactic| walk_at "veq") => `(tactic| first | with_reducible refine v_eq_int ?_ | with_reducible refine v_eq_str ?_)
local macro_rules | `(tactic| walk_at "vadd") => `(tactic| first | with_reducible refine v_add_int ?_ | with_reducible refine v_add_tup ?_ ?_ | with_reducible refine v_add_lst ?_ ?_ | with_reducible refine v_add_str ?_ ?_)
local macro_rules | `(tactic| walk_at "sw") => `(tactic| (intro env h; obtain ⟨sc, _, _, _, _, _, _, _, _⟩ := env; (have h : sc = _ := h); subst h; rfl))
variable {g : Gb}
def sp_is_integer : DSp := fun ds M Q _ => ∃ i, ds = [.int i] ∧ Q (.bl true) M
def sp_is_number : DSp := fun ds M Q _ => ∃ i : Int, ds = [.int i] ∧ Q (.bl (decide (0 ≤ i))) M
def sp_is_below : DSp := fun ds M Q _ => ∃ i m : Int, ds = [.int i, .int m] ∧ Q (.bl (decide (0 ≤ i) && decide (i < m))) M
def sp_is_within : DSp := fun ds M Q _ => ∃ i lo hi : Int, ds = [.int i, .int lo, .int hi] ∧ Q (.bl (decide (lo ≤ i) && decide (i ≤ hi))) M
def seqTy (M : Mem) (d : D) (T : String) : Prop := tyD M d T ∧ (T = "list" ∨ T = "tuple")
def sp_is_sequence : DSp := fun ds M Q _ => ∃ d, ds = [d] ∧ (∃ T, seqTy M d T) ∧ Q (.bl true) M
def sp_is_text : DSp := fun ds M Q _ => ∃ d, ds = [d] ∧ ∃ T r, tyD M d T ∧ kitB T "str" = some r ∧ Q (.bl r) M
theorem ok_is_integer (T : Tb g) : Kn g "is_integer" 1 ["value"] sp_is_integer := by
  refine T.k_is_integer fun f fd F => fn_def (N := ["value"]) F ⟨rfl, rfl, rfl, by decide +kernel, rfl, by decide +kernel, by decide +kernel⟩ (by rintro _ _ _ _ ⟨_, rfl, _⟩; rfl) ?_
  rintro _ M Qd Ed cd ⟨i, rfl, q⟩
  refine sxs_one ?_
  refine sx_ret ?_
  refine ex_and ?_
  refine ex_isi rfl T.f_isinstance rfl T.f_int (T' := "int") (by decide +kernel) ?_
  refine ex_name (i := 0) rfl rfl rfl ?_
  refine ⟨_, true, rfl, rfl, ?_⟩
  refine ex_bone ?_
  refine ex_not ?_
  refine ex_isi rfl T.f_isinstance rfl T.f_bool (T' := "bool") (by decide +kernel) ?_
  refine ex_name (i := 0) rfl rfl rfl ?_
  refine ⟨_, false, rfl, rfl, ?_⟩
  exact rt_of q
theorem ok_is_number (T : Tb g) : Kn g "is_number" 2 ["value"] sp_is_number := by
  refine T.k_is_number fun f fd F => fn_def (N := ["value"]) F ⟨rfl, rfl, rfl, by decide +kernel, rfl, by decide +kernel, by decide +kernel⟩ (by rintro _ _ _ _ ⟨_, rfl, _⟩; rfl) ?_
  rintro _ M Qd Ed cd ⟨_, rfl, q⟩
  refine sxs_one ?_
  refine sx_ret ?_
  refine ex_and ?_
  refine ex_call (ok_is_integer T) (Nat.le_of_ble_eq_true rfl) rfl ?_
  refine ax1 ?_
  refine ex_name (i := 0) rfl rfl rfl ?_
  refine ⟨_, rfl, ?_⟩
  refine ex_bone ?_
  refine ex_ge ?_
  refine ex_name (i := 0) rfl rfl rfl ?_
  refine ex_int ?_
  refine v_cmp_int ?_
  exact rt_of q
theorem ok_is_below (T : Tb g) : Kn g "is_below" 3 ["value", "most"] sp_is_below := by
  refine T.k_is_below fun f fd F => fn_def (N := ["value", "most"]) F ⟨rfl, rfl, rfl, by decide +kernel, rfl, by decide +kernel, by decide +kernel⟩ (by rintro _ _ _ _ ⟨_, _, rfl, _⟩; rfl) ?_
  rintro _ M Qd Ed cd ⟨_, _, rfl, q⟩
  refine sxs_one ?_
  refine sx_ret ?_
  refine ex_and ?_
  refine ex_call (ok_is_number T) (Nat.le_of_ble_eq_true rfl) rfl ?_
  refine ax1 ?_
  refine ex_name (i := 0) rfl rfl rfl ?_
  refine ⟨_, rfl, ?_⟩
  refine v_bl ?_
  refine cnd (fun hb => ?_) fun hb => ?_
  rotate_left
  · rw [hb] at q
    exact rt_of q
  refine ex_bone ?_
  refine ex_lt ?_
  refine ex_name (i := 0) rfl rfl rfl ?_
  refine ex_name (i := 1) rfl rfl rfl ?_
  refine v_cmp_int ?_
  rw [hb] at q
  exact rt_of q
theorem ok_is_within (T : Tb g) : Kn g "is_within" 2 ["value", "least", "most"] sp_is_within := by
  refine T.k_is_within fun f fd F => fn_def (N := ["value", "least", "most"]) F ⟨rfl, rfl, rfl, by decide +kernel, rfl, by decide +kernel, by decide +kernel⟩ (by rintro _ _ _ _ ⟨_, _, _, rfl, _⟩; rfl) ?_
  rintro _ M Qd Ed cd ⟨_, _, _, rfl, q⟩
  refine sxs_one ?_
  refine sx_ret ?_
  refine ex_and ?_
  refine ex_call (ok_is_integer T) (Nat.le_of_ble_eq_true rfl) rfl ?_
  refine ax1 ?_
  refine ex_name (i := 0) rfl rfl rfl ?_
  refine ⟨_, rfl, ?_⟩
  refine ex_bone ?_
  refine ex_ch (fun _ => op_le) (fun _ => op_le) ?_
  refine ex_name (i := 1) rfl rfl rfl ?_
  refine ex_name (i := 0) rfl rfl rfl ?_
  refine v_ch (fun hc => ?_) fun hc => ?_
  · refine ex_name (i := 2) rfl rfl rfl ?_
    refine ⟨_, rfl, ?_⟩
    rw [hc] at q
    exact rt_of q
  · rw [hc] at q
    exact rt_of q
theorem ok_is_sequence (T : Tb g) : Kn g "is_sequence" 1 ["value"] sp_is_sequence := by
  refine T.k_is_sequence fun f fd F => fn_def (N := ["value"]) F ⟨rfl, rfl, rfl, by decide +kernel, rfl, by decide +kernel, by decide +kernel⟩ (by rintro _ _ _ _ ⟨_, rfl, _⟩; rfl) ?_
  rintro _ M Qd Ed cd ⟨_, rfl, ⟨T', ht, hs⟩, q⟩
  refine sxs_one ?_
  refine sx_ret ?_
  refine ex_isi2 (T1' := "list") (T2' := "tuple") rfl T.f_isinstance rfl T.f_list (by decide +kernel) rfl T.f_tuple (by decide +kernel) ?_
  refine ex_name (i := 0) rfl rfl rfl ?_
  rcases hs with rfl | rfl
  · exact ⟨_, true, false, ht, rfl, rfl, rt_of q⟩
  · exact ⟨_, false, true, ht, rfl, rfl, rt_of q⟩
theorem ok_is_text (T : Tb g) : Kn g "is_text" 1 ["value"] sp_is_text := by
  refine T.k_is_text fun f fd F => fn_def (N := ["value"]) F ⟨rfl, rfl, rfl, by decide +kernel, rfl, by decide +kernel, by decide +kernel⟩ (by rintro _ _ _ _ ⟨_, rfl, _⟩; rfl) ?_
  rintro _ M Qd Ed cd ⟨_, rfl, T', r, ht, hr, q⟩
  refine sxs_one ?_
  refine sx_ret ?_
  refine ex_isi rfl T.f_isinstance rfl T.f_str (T' := "str") (by decide +kernel) ?_
  refine ex_name (i := 0) rfl rfl rfl ?_
  exact ⟨_, r, ht, hr, rt_of q⟩
def sp_common_divisor : DSp := fun ds M Q _ => ∃ i j : Nat, ds = [.int i, .int j] ∧ Q (.int (Nat.gcd i j)) M
theorem gcd_turn {a b : Nat} : Nat.gcd b (a % b) = Nat.gcd a b := by
  rw [Nat.gcd_comm b, ← Nat.gcd_rec, Nat.gcd_comm]
theorem ok_common_divisor (T : Tb g) : Kn g "common_divisor" 1 ["one", "other"] sp_common_divisor := by
  refine T.k_common_divisor fun f fd F => fn_def (N := ["one", "other"]) F ⟨rfl, rfl, rfl, by decide +kernel, rfl, by decide +kernel, by decide +kernel⟩ (by rintro _ _ _ _ ⟨_, _, rfl, _⟩; rfl) ?_
  rintro _ M Qd Ed cd ⟨i, j, rfl, q⟩
  refine sxs_cons ?_
  refine sx_while (fun m δ' M' => ∃ a b : Nat, m = b ∧ Nat.gcd a b = Nat.gcd i j ∧ δ' = [some (.int a), some (.int b)] ∧ M' = M) j ⟨i, j, rfl, rfl, rfl, rfl⟩ ?_
  rintro m δ' M' ⟨a, b, rfl, hg, rfl, rfl⟩
  refine tx_ne ?_
  refine ex_name (i := 1) rfl rfl rfl ?_
  refine ex_int ?_
  refine v_eq_nat (n := 0) ?_
  refine v_bl ?_
  refine cnd (fun hb => ?_) fun hb => ?_
  · have hb0 : m ≠ 0 := by simpa using hb
    refine sxs_one ?_
    refine sx_par (i := 0) (j := 1) rfl rfl (by decide) rfl rfl (by walk_at "sw") ?_
    refine ax2 ?_
    refine ex_name (i := 1) rfl rfl rfl ?_
    refine ex_mod ?_
    refine ex_name (i := 0) rfl rfl rfl ?_
    refine ex_name (i := 1) rfl rfl rfl ?_
    refine v_mod_nat (by omega) ?_
    refine ⟨_, _, rfl, ?_⟩
    exact ⟨a % m, Nat.mod_lt _ (by omega), m, a % m, rfl, gcd_turn.trans hg, rfl, rfl⟩
  · have hb0 : m = 0 := by simpa using hb
    subst hb0
    refine sxs_one ?_
    refine sx_ret ?_
    refine ex_name (i := 0) rfl rfl rfl ?_
    refine rt_of ?_
    rw [← hg, Nat.gcd_zero_right] at q
    exact q
def sp_common_multiple : DSp := fun ds M Q _ => ∃ i j : Nat, ds = [.int i, .int j] ∧ 0 < i ∧ i < 1073741824 ∧ 0 < j ∧ j < 1073741824 ∧ Q (.int (Nat.lcm i j)) M
theorem ok_common_multiple (T : Tb g) : Kn g "common_multiple" 2 ["one", "other"] sp_common_multiple := by
  refine T.k_common_multiple fun f fd F => fn_def (N := ["one", "other"]) F ⟨rfl, rfl, rfl, by decide +kernel, rfl, by decide +kernel, by decide +kernel⟩ (by rintro _ _ _ _ ⟨_, _, rfl, _⟩; rfl) ?_
  rintro _ M Qd Ed cd ⟨i, j, rfl, hi, hi2, hj, hj2, q⟩
  have h1 := Nat.gcd_pos_of_pos_left j hi
  have h2 := Nat.gcd_le_left j hi
  refine sxs_one ?_
  refine sx_ret ?_
  refine ex_mul ?_
  refine ex_fdiv ?_
  refine ex_name (i := 0) rfl rfl rfl ?_
  refine ex_call (ok_common_divisor T) (Nat.le_of_ble_eq_true rfl) rfl ?_
  refine ax2 ?_
  refine ex_name (i := 0) rfl rfl rfl ?_
  refine ex_name (i := 1) rfl rfl rfl ?_
  refine ⟨_, _, rfl, ?_⟩
  refine v_fdiv_nat (by omega) (by omega) ?_
  refine ex_name (i := 1) rfl rfl rfl ?_
  refine v_mul_nat (.inr (by omega)) ?_
  refine rt_of ?_
  have e : i / Nat.gcd i j * j = Nat.lcm i j := by
    unfold Nat.lcm
    rw [Nat.div_mul_right_comm (Nat.gcd_dvd_left i j)]
  rw [e]
  exact q
def sp_least_terms : DSp := fun ds M Q _ => ∃ i j : Nat, ds = [.int i, .int j] ∧ 0 < j ∧ j < 1073741824 ∧ Q (.tup [.int ((i / Nat.gcd i j : Nat) : Int), .int ((j / Nat.gcd i j : Nat) : Int)]) M
theorem ok_least_terms (T : Tb g) : Kn g "least_terms" 2 ["top", "bottom"] sp_least_terms := by
  refine T.k_least_terms fun f fd F => fn_def (N := ["top", "bottom", "common"]) F ⟨rfl, rfl, rfl, by decide +kernel, rfl, by decide +kernel, by decide +kernel⟩ (by rintro _ _ _ _ ⟨_, _, rfl, _⟩; rfl) ?_
  rintro _ M Qd Ed cd ⟨i, j, rfl, hj, hj2, q⟩
  have h1 := Nat.gcd_pos_of_pos_right i hj
  have h2 := Nat.gcd_le_right i hj
  refine sxs_cons ?_
  refine sx_set (i := 2) rfl rfl ?_
  refine ex_call (ok_common_divisor T) (Nat.le_of_ble_eq_true rfl) rfl ?_
  refine ax2 ?_
  refine ex_name (i := 0) rfl rfl rfl ?_
  refine ex_name (i := 1) rfl rfl rfl ?_
  refine ⟨_, _, rfl, ?_⟩
  refine sxs_one ?_
  refine sx_ret ?_
  refine ex_tup ?_
  refine ax2 ?_
  refine ex_fdiv ?_
  refine ex_name (i := 0) rfl rfl rfl ?_
  refine ex_name (i := 2) rfl rfl rfl ?_
  refine v_fdiv_nat (by omega) (by omega) ?_
  refine ex_fdiv ?_
  refine ex_name (i := 1) rfl rfl rfl ?_
  refine ex_name (i := 2) rfl rfl rfl ?_
  refine v_fdiv_nat (by omega) (by omega) ?_
  refine ⟨by show 2 ≤ sizeLine; decide, ?_⟩
  exact rt_of q
end DL

set_option Elab.async false
set_option linter.all false
set_option maxRecDepth 100000
set_option maxHeartbeats 1000000
/-! # The D-layer, part 11: loops and comprehensions over mapped lists -/
namespace DL
open PySem PySem.Spec PyProof.Rows L2
open Evl (Ex)
variable {g : Gb} {c : Cz} {δ : Sl} {M : Mem} {Q : D → Mem → Prop} {R : Bool → Mem → Prop} {O : Od} {pos : Pos} {a b e tg elt : Expr} {rest es : List Expr} {st : Stmt} {sts body : List Stmt} {x : Str} {p apos : Pos} {stay : Mem → Prop} {scope : Scope} {vs : List Nat}

theorem for_walk {α : Type} {xs : List α} {f : α → D} (W : List α → Sl → Mem → Prop) (h0 : W xs δ M) (hst : ∀ r δ' M', W r δ' M' → stay M')
    (turn : ∀ x r δ' M', W (x :: r) δ' M' → GX g c tg (f x) δ' M' fun δ2 M2 => SXs g c body δ2 M2 { O with nx := W r, ct := W r, bk := O.nx }) (fin : ∀ δ' M', W [] δ' M' → O.nx δ' M') :
    ∃ Pv : Nat → Sl → Mem → Prop, Pv 0 δ M ∧ (∀ i δ' M', Pv i δ' M' → stay M') ∧
      (∀ i d δ' M', (xs.map f)[i]? = some d → Pv i δ' M' → GX g c tg d δ' M' fun δ2 M2 => SXs g c body δ2 M2 { O with nx := Pv (i + 1), ct := Pv (i + 1), bk := O.nx }) ∧ (∀ δ' M', Pv (xs.map f).length δ' M' → O.nx δ' M') := by
  refine ⟨fun i => W (xs.drop i), h0, fun i => hst _, fun i d δ' M' hd hI => ?_, fun δ' M' hI => fin δ' M' ?_⟩
  · rw [List.getElem?_map] at hd
    obtain ⟨y, hy, rfl⟩ := Option.map_eq_some_iff.mp hd
    have hlt := (List.getElem?_eq_some_iff.mp hy).1
    have e : xs.drop i = y :: xs.drop (i + 1) := by
      rw [List.drop_eq_getElem_cons hlt]
      rw [List.getElem?_eq_getElem hlt] at hy
      rw [Option.some.inj hy]
    have hI : W (xs.drop i) δ' M' := hI
    rw [e] at hI
    exact turn y _ δ' M' hI
  · have hI : W (xs.drop (xs.map f).length) δ' M' := hI
    rw [List.length_map, List.drop_length] at hI
    exact hI
theorem paired_map {α β γ : Type} {P : β → γ → Prop} {f : α → β} {h : α → γ} : ∀ {xs : List α}, (∀ x ∈ xs, P (f x) (h x)) → Paired P (xs.map f) (xs.map h)
  | [], _ => .nil
  | x :: xs, k => .cons (k x List.mem_cons_self) (paired_map fun y hy => k y (List.mem_cons_of_mem _ hy))
theorem filterMap_some {α β : Type} {h : α → β} : ∀ {xs : List α}, (xs.map fun x => some (h x)).filterMap id = xs.map h
  | [] => rfl
  | x :: xs => by
    rw [List.map_cons, List.filterMap_cons]
    show h x :: (xs.map fun x => some (h x)).filterMap id = _
    rw [filterMap_some]
    rfl
theorem filterMap_if {α β : Type} {h : α → β} {p : α → Bool} : ∀ {xs : List α}, (xs.map fun x => if p x = true then some (h x) else none).filterMap id = (xs.filter p).map h
  | [] => rfl
  | x :: xs => by
    rw [List.map_cons, List.filterMap_cons, List.filter_cons]
    have ih := filterMap_if (h := h) (p := p) (xs := xs)
    cases hp : p x with
    | true =>
      show h x :: (xs.map fun x => if p x = true then some (h x) else none).filterMap id = _
      rw [ih]
      rfl
    | false =>
      show (xs.map fun x => if p x = true then some (h x) else none).filterMap id = _
      rw [ih]
      rfl
/-- [elt for tg in ..] that changes nothing -/
theorem pur_map {α : Type} {xs : List α} {f h : α → D} (hz : xs.length ≤ 100000) (hst : ∀ M', MSub M M' → stay M')
    (one : ∀ x ∈ xs, ∀ M', MSub M M' → GW g (c.blk scope) vs tg (f x) (wipeD δ vs) M' fun δ2 M2 => M2 = M' ∧ EX g (c.blk scope) elt δ2 M' fun z M4 => z = h x ∧ M4 = M')
    (q : Q (.lst (xs.map h)) M) : PurD g c δ tg elt [] scope vs Q (xs.map f) stay M := by
  refine ⟨by rw [List.length_map]; exact hz, hst, xs.map fun x => some (h x), paired_map fun x hx M' hM X F0 G F σ H v eF st sl r => ?_, ?_⟩
  · refine wG_mono (one x hx M' hM X F0 G F σ H v eF st sl r) fun σ' H' q2 => ⟨q2.1, PoN.imp (fun δ2 M2 q3 => ⟨q3.1, rfl, q3.2⟩) q2.2⟩
  · rw [filterMap_some]
    exact q
/-- [elt for tg in .. if t] that changes nothing -/
theorem pur_filter {α : Type} {xs : List α} {f h : α → D} {pr : α → Bool} {t : Expr} (hz : xs.length ≤ 100000) (hst : ∀ M', MSub M M' → stay M')
    (one : ∀ x ∈ xs, ∀ M', MSub M M' → GW g (c.blk scope) vs tg (f x) (wipeD δ vs) M' fun δ2 M2 => M2 = M' ∧ TX g (c.blk scope) t δ2 M' fun k M3 => k = pr x ∧ M3 = M' ∧ (k = true → EX g (c.blk scope) elt δ2 M' fun z M4 => z = h x ∧ M4 = M'))
    (q : Q (.lst ((xs.filter pr).map h)) M) : PurD g c δ tg elt [t] scope vs Q (xs.map f) stay M := by
  refine ⟨by rw [List.length_map]; exact hz, hst, xs.map fun x => if pr x = true then some (h x) else none, paired_map fun x hx M' hM X F0 G F σ H v eF st sl r => ?_, ?_⟩
  · refine wG_mono (one x hx M' hM X F0 G F σ H v eF st sl r) fun σ' H' q2 => ⟨q2.1, PoN.imp (fun δ2 M2 q3 => ⟨q3.1, TX.imp q3.2 fun k M3 q4 => ⟨q4.2.1, ?_⟩⟩) q2.2⟩
    obtain ⟨h1, h2, h3⟩ := q4
    rw [← h1]
    cases k with
    | true => exact h3 rfl
    | false => exact trivial
  · rw [filterMap_if]
    exact q
theorem zipD_map {α β : Type} {f : α → D} {h : β → D} : ∀ {xs : List α} {ys : List β}, zipD (xs.map f) (ys.map h) = (xs.zip ys).map fun z => .tup [f z.1, h z.2]
  | [], _ => by simp [zipD]
  | _ :: _, [] => by simp [zipD]
  | x :: xs, y :: ys => by
    rw [List.map_cons, List.map_cons, List.zip_cons_cons, List.map_cons, ← zipD_map]
    rfl
theorem enuD_map {α : Type} {f : α → D} : ∀ {xs : List α} {k : Nat}, enuD (k : Int) (xs.map f) = (xs.zipIdx k).map fun z => .tup [.int (z.2 : Int), f z.1]
  | [], _ => rfl
  | x :: xs, k => by
    rw [List.map_cons, List.zipIdx_cons, List.map_cons, ← enuD_map (xs := xs) (k := k + 1)]
    rfl
theorem rngD_nat {lo n : Nat} : rngD (lo : Int) n = (List.range n).map fun i : Nat => D.int ((lo + i : Nat) : Int) := rfl
theorem rngD_zero {n : Nat} : rngD 0 n = (List.range n).map fun i : Nat => D.int (i : Int) := by
  unfold rngD
  refine List.map_congr_left fun i _ => ?_
  rw [Int.zero_add]
end DL

set_option Elab.async false
set_option linter.all false
set_option maxRecDepth 100000
set_option maxHeartbeats 1000000
/-! # The program's defs: hands -/
namespace DL
open PySem PySem.Spec PyProof.Rows L2
open Evl (Ex)
local macro_rules | `(tactic| walk_at "sw") => `(tactic| (intro env h; obtain ⟨sc, _, _, _, _, _, _, _, _⟩ := env; (have h : sc = _ := h); subst h; rfl))
theorem frz_ins {M : Mem} {q C : Addr} {ns : List Str} {fs : List D} {Q : D → Mem → Prop} (hq : M q = none) (h : Q (.ins C ns fs) M) : FrzD (mup M q (.ins C ns fs)) Q (.ref q) := ⟨q, rfl, .inr ⟨C, ns, fs, mup_same, by rw [mdel_mup hq]; exact h⟩⟩
variable {g : Gb}
def natD (n : Nat) : D := .int (n : Int)
def natsD (l : List Nat) : List D := l.map natD
theorem natsD_len (l : List Nat) : (natsD l).length = l.length := List.length_map ..
def lcmL (ms : List Nat) : Nat := ms.foldl Nat.lcm 1
structure MsOk (ms : List Nat) : Prop where
  lo : 2 ≤ ms.length
  hi : ms.length ≤ 8
  each : ∀ m ∈ ms, 1 ≤ m ∧ m ≤ 60
  lcm : lcmL ms ≤ 1000000000
def hndD (g : Gb) (ms : List Nat) : D := .ins (ga g "Hands") ["marks", "many"] [.tup (natsD ms), natD ms.length]
def sp_check_marks : DSp := fun ds M Q _ => ∃ ms, ds = [.lst (natsD ms)] ∧ MsOk ms ∧ Q (.tup (natsD ms)) M
theorem ok_check_marks (T : Tb g) : Kn g "check_marks" 3 ["value"] sp_check_marks := by
  refine T.k_check_marks fun f fd F => fn_def (N := ["value", "at", "marks"]) F ⟨rfl, rfl, rfl, by decide +kernel, rfl, by decide +kernel, by decide +kernel⟩ (by rintro _ _ _ _ ⟨_, rfl, _⟩; rfl) ?_
  rintro _ M Qd Ed cd ⟨ms, rfl, hm, q⟩
  have h1 := hm.lo
  have h2 := hm.hi
  refine sxs_cons ?_
  refine sx_if ?_
  refine tx_w ?_
  refine wt_or ?_
  refine tx_not ?_
  refine tx_val ?_
  refine ex_call (ok_is_sequence T) (Nat.le_of_ble_eq_true rfl) rfl ?_
  refine ax1 ?_
  refine ex_name (i := 0) rfl rfl rfl ?_
  refine ⟨_, rfl, ⟨"list", rfl, .inl rfl⟩, ?_⟩
  refine wt_or1 ?_
  refine tx_not ?_
  refine tx_ch (fun _ => op_le) (fun _ => op_le) ?_
  refine ex_int ?_
  refine ex_len rfl T.f_len ?_
  refine ex_name (i := 0) rfl rfl rfl ?_
  refine v_len_lst ?_
  rw [natsD_len]
  refine v_ch (fun hc => ?_) fun hc => absurd hc (by simp; omega)
  refine T.x_MOST_HANDS rfl ?_
  refine ⟨_, rfl, ?_⟩
  refine cnd_f (by simp; omega) ?_
  refine sxs_nil ?_
  refine sxs_cons ?_
  refine sx_for ?_
  refine ix_enL rfl T.f_enumerate ?_
  refine ex_name (i := 0) rfl rfl rfl ?_
  refine ⟨_, rfl, ?_⟩
  unfold natsD
  rw [show (0 : Int) = ((0 : Nat) : Int) from rfl, enuD_map]
  refine for_walk (fun r δ' M' => (∀ z ∈ r, 1 ≤ z.1 ∧ z.1 ≤ 60) ∧ M' = M ∧ ∃ u v, δ' = [some (.lst (natsD ms)), u, v]) ⟨fun z hz => hm.each z.1 ?_, rfl, _, _, rfl⟩ (fun _ _ _ _ => trivial) ?_ ?_
  · exact List.fst_mem_of_mem_zipIdx hz
  · rintro ⟨m, i⟩ r δ' M' ⟨hr, rfl, u, v, rfl⟩
    have hm1 := hr (m, i) List.mem_cons_self
    refine gx_tup (n := 2) ⟨_, rfl, rfl, ?_⟩
    refine gxs_cons ?_
    refine gx_name (i := 1) rfl rfl ?_
    refine gxs_cons ?_
    refine gx_name (i := 2) rfl rfl ?_
    refine gxs_nil ?_
    refine sxs_one ?_
    refine sx_if ?_
    refine tx_not ?_
    refine tx_val ?_
    refine ex_call (ok_is_within T) (Nat.le_of_ble_eq_true rfl) rfl ?_
    refine ax3 ?_
    refine ex_name (i := 2) rfl rfl rfl ?_
    refine ex_int ?_
    refine T.x_MOST_MARKS rfl ?_
    refine ⟨_, _, _, rfl, ?_⟩
    refine cnd_f (by simp; omega) ?_
    refine sxs_nil ?_
    exact ⟨fun z hz => hr z (List.mem_cons_of_mem _ hz), rfl, _, _, rfl⟩
  · rintro δ' M' ⟨_, rfl, u, v, rfl⟩
    refine sxs_one ?_
    refine sx_ret ?_
    refine ex_tupc rfl T.f_tuple ?_
    refine ex_name (i := 0) rfl rfl rfl ?_
    refine ⟨_, rfl, ?_⟩
    exact rt_of q
def sp_Hands (g : Gb) : DSp := fun ds M Q _ => ∃ p ms, ds = [.ref p, .lst (natsD ms)] ∧ MsOk ms ∧ M p = some (.ins (ga g "Hands") [] []) ∧ Q .non (mup M p (.ins (ga g "Hands") ["marks", "many"] [.tup (natsD ms), natD ms.length]))
theorem ok_Hands (T : Tb g) : Kc g "Hands" (ga g "Hands") 4 ["self", "marks"] (sp_Hands g) := by
  refine T.k_Hands___init__ fun f fd F => fn_def (N := ["self", "marks"]) F ⟨rfl, rfl, rfl, by decide +kernel, rfl, by decide +kernel, by decide +kernel⟩ (by rintro _ _ _ _ ⟨_, _, rfl, _⟩; rfl) ?_
  rintro _ M Qd Ed cd ⟨p, ms, rfl, hm, hM, q⟩
  refine sxs_cons ?_
  refine sx_fld T.cls_Hands T.no_Hands_marks ?_
  refine ex_call (ok_check_marks T) (Nat.le_of_ble_eq_true rfl) rfl ?_
  refine ax1 ?_
  refine ex_name (i := 1) rfl rfl rfl ?_
  refine ⟨ms, rfl, hm, ?_⟩
  refine ex_name (i := 0) rfl rfl rfl ?_
  refine ⟨_, _, _, rfl, hM, by decide, ?_⟩
  refine sxs_one ?_
  refine sx_fld T.cls_Hands T.no_Hands_many ?_
  refine ex_len rfl T.f_len ?_
  refine ex_fld T.cls_Hands T.no_Hands_marks ?_
  refine ex_name (i := 0) rfl rfl rfl ?_
  refine ⟨_, _, _, mup_same, rfl, ?_⟩
  refine v_len_tup ?_
  refine ex_name (i := 0) rfl rfl rfl ?_
  refine ⟨_, _, _, rfl, mup_same, by decide, ?_⟩
  refine nx_of ?_
  rw [mup_mup, natsD_len]
  exact q
theorem lcm_fold_pos : ∀ {ms : List Nat} {b : Nat}, 0 < b → (∀ m ∈ ms, 1 ≤ m) → 0 < ms.foldl Nat.lcm b
  | [], _, h, _ => h
  | m :: ms, b, h, k => lcm_fold_pos (ms := ms) (Nat.lcm_pos h (k m List.mem_cons_self)) fun x hx => k x (List.mem_cons_of_mem _ hx)
theorem lcm_fold_dvd : ∀ {ms : List Nat} {b : Nat}, b ∣ ms.foldl Nat.lcm b
  | [], b => Nat.dvd_refl b
  | m :: ms, b => Nat.dvd_trans (Nat.dvd_lcm_left b m) lcm_fold_dvd
theorem lcm_fold_mem : ∀ {ms : List Nat} {b m : Nat}, m ∈ ms → m ∣ ms.foldl Nat.lcm b
  | m :: ms, b, x, h => by
    rcases List.mem_cons.mp h with e | h
    · rw [e]
      exact Nat.dvd_trans (Nat.dvd_lcm_right b m) lcm_fold_dvd
    · exact lcm_fold_mem (ms := ms) h
theorem MsOk.pos {ms : List Nat} (h : MsOk ms) : 0 < lcmL ms := lcm_fold_pos (by decide) fun m hm => (h.each m hm).1
theorem lcm_dvd {ms : List Nat} {m : Nat} (h : m ∈ ms) : m ∣ lcmL ms := lcm_fold_mem h
/-- the widths on the dial -/
def widths (ms : List Nat) : List Nat := ms.map (lcmL ms / ·)
def sp_sum_of_parts : DSp := fun ds M Q _ => ∃ ms, ds = [.tup (natsD ms)] ∧ MsOk ms ∧ Q (.tup [natD ((widths ms).sum / Nat.gcd (widths ms).sum (lcmL ms)), natD (lcmL ms / Nat.gcd (widths ms).sum (lcmL ms))]) M
theorem sum_nats : ∀ l : List Nat, (l.map fun n : Nat => (n : Int)).sum = ((l.sum : Nat) : Int)
  | [] => rfl
  | n :: l => by
    rw [List.map_cons, List.sum_cons, List.sum_cons, sum_nats l]
    rfl
theorem natsD_ints (l : List Nat) : natsD l = (l.map fun n : Nat => (n : Int)).map D.int := by
  unfold natsD
  rw [List.map_map]
  rfl
theorem ok_sum_of_parts (T : Tb g) : Kn g "sum_of_parts" 3 ["marks"] sp_sum_of_parts := by
  refine T.k_sum_of_parts fun f fd F => fn_def (N := ["marks", "bottom", "number"]) F ⟨rfl, rfl, rfl, by decide +kernel, rfl, by decide +kernel, by decide +kernel⟩ (by rintro _ _ _ _ ⟨_, rfl, _⟩; rfl) ?_
  rintro _ M Qd Ed cd ⟨ms, rfl, hm, q⟩
  refine sxs_cons ?_
  refine sx_set (i := 1) rfl rfl ?_
  refine ex_int ?_
  refine sxs_cons ?_
  refine sx_for ?_
  refine ix_tupl ?_
  refine ex_name (i := 0) rfl rfl rfl ?_
  refine ⟨_, rfl, ?_⟩
  refine for_walk (xs := ms) (fun r δ' M' => ∃ b, 0 < b ∧ (∀ m ∈ r, 1 ≤ m ∧ m ≤ 60) ∧ r.foldl Nat.lcm b = lcmL ms ∧ M' = M ∧ ∃ v, δ' = [some (.tup (natsD ms)), some (natD b), v]) ⟨1, by decide, hm.each, rfl, rfl, _, rfl⟩ (fun _ _ _ _ => trivial) ?_ ?_
  · rintro m r δ' M' ⟨b, hb, hr, hl, rfl, v, rfl⟩
    have hm1 := hr m List.mem_cons_self
    have hb2 : b ≤ lcmL ms := Nat.le_of_dvd hm.pos (by rw [← hl]; exact lcm_fold_dvd)
    have hb3 := hm.lcm
    refine gx_name (i := 2) rfl rfl ?_
    refine sxs_one ?_
    refine sx_set (i := 1) rfl rfl ?_
    refine ex_call (ok_common_multiple T) (Nat.le_of_ble_eq_true rfl) rfl ?_
    refine ax2 ?_
    refine ex_name (i := 1) rfl rfl rfl ?_
    refine ex_name (i := 2) rfl rfl rfl ?_
    refine ⟨b, m, rfl, hb, by omega, by omega, by omega, ?_⟩
    exact ⟨Nat.lcm b m, Nat.lcm_pos hb (by omega), fun x hx => hr x (List.mem_cons_of_mem _ hx), hl, rfl, _, rfl⟩
  · rintro δ' M' ⟨b, hb, _, hl, rfl, v, rfl⟩
    obtain rfl : b = lcmL ms := hl
    have h3 := hm.pos
    have h4 := hm.lcm
    refine sxs_one ?_
    refine sx_ret ?_
    refine ex_call (ok_least_terms T) (Nat.le_of_ble_eq_true rfl) rfl ?_
    refine ax2 ?_
    refine ex_sum rfl T.f_sum ?_
    refine ex_lcP (own := [("number", 2)]) (by kernel_rfl) ?_
    refine ix_tupl ?_
    refine ex_name (i := 0) rfl rfl rfl ?_
    refine ⟨_, rfl, ?_⟩
    refine pur_map (xs := ms) (f := natD) (h := fun m => natD (lcmL ms / m)) (by have := hm.hi; omega) (fun _ _ => trivial) (fun m hx M' hM' => ?_) ?_
    · have hm1 := hm.each m hx
      refine gw_name (i := 2) rfl rfl (by decide) ?_
      refine ⟨rfl, ?_⟩
      refine ex_fdiv ?_
      refine ex_name (i := 1) rfl rfl rfl ?_
      refine ex_name (i := 2) rfl rfl rfl ?_
      refine v_fdiv_nat (by omega) (by omega) ?_
      exact ⟨rfl, rfl⟩
    refine ⟨(widths ms).map fun n : Nat => (n : Int), ?_, ?_⟩
    · show _ = _
      rw [← natsD_ints]
      unfold natsD widths
      rw [List.map_map]
      rfl
    rw [sum_nats]
    refine ex_name (i := 1) rfl rfl rfl ?_
    refine ⟨_, _, rfl, h3, by omega, ?_⟩
    exact rt_of q
def sp_share (g : Gb) : DSp := fun ds M Q _ => ∃ ms, ds = [hndD g ms] ∧ MsOk ms ∧ Q (.tup [natD ((widths ms).sum / Nat.gcd (widths ms).sum (lcmL ms)), natD (lcmL ms / Nat.gcd (widths ms).sum (lcmL ms))]) M
theorem ok_share (T : Tb g) : Kn g "share" 4 ["hands"] (sp_share g) := by
  refine T.k_share fun f fd F => fn_def (N := ["hands"]) F ⟨rfl, rfl, rfl, by decide +kernel, rfl, by decide +kernel, by decide +kernel⟩ (by rintro _ _ _ _ ⟨_, rfl, _⟩; rfl) ?_
  rintro _ M Qd Ed cd ⟨ms, rfl, hm, q⟩
  refine sxs_one ?_
  refine sx_ret ?_
  refine ex_call (ok_sum_of_parts T) (Nat.le_of_ble_eq_true rfl) rfl ?_
  refine ax1 ?_
  refine ex_fld T.cls_Hands T.no_Hands_marks ?_
  refine ex_name (i := 0) rfl rfl rfl ?_
  refine ⟨_, _, _, ⟨rfl, rfl, rfl⟩, rfl, ?_⟩
  exact ⟨ms, rfl, hm, rt_of q⟩
def TellOk (ms : List Nat) : Prop := (widths ms).sum ≤ lcmL ms
def sp_need_telling (g : Gb) : DSp := fun ds M Q E => ∃ ms, ds = [hndD g ms] ∧ MsOk ms ∧ (TellOk ms → Q (hndD g ms) M) ∧
  (¬ TellOk ms → E (ga g "NoTelling") ["top", "bottom"] [natD ((widths ms).sum / Nat.gcd (widths ms).sum (lcmL ms)), natD (lcmL ms / Nat.gcd (widths ms).sum (lcmL ms))] M)
theorem div_lt_div {a b d : Nat} (hd : 0 < d) (ha : d ∣ a) (hb : d ∣ b) : a / d > b / d ↔ a > b := by
  obtain ⟨x, rfl⟩ := ha
  obtain ⟨y, rfl⟩ := hb
  rw [Nat.mul_div_cancel_left _ hd, Nat.mul_div_cancel_left _ hd]
  exact ⟨fun h => Nat.mul_lt_mul_of_pos_left h hd, fun h => Nat.lt_of_mul_lt_mul_left h⟩
theorem ok_need_telling (T : Tb g) : Kn g "need_telling" 5 ["hands"] (sp_need_telling g) := by
  refine T.k_need_telling fun f fd F => fn_def (N := ["hands", "top", "bottom"]) F ⟨rfl, rfl, rfl, by decide +kernel, rfl, by decide +kernel, by decide +kernel⟩ (by rintro _ _ _ _ ⟨_, rfl, _⟩; rfl) ?_
  rintro _ M Qd Ed cd ⟨ms, rfl, hm, q, qE⟩
  have hg := div_lt_div (Nat.gcd_pos_of_pos_right (widths ms).sum hm.pos) (Nat.gcd_dvd_left (widths ms).sum (lcmL ms)) (Nat.gcd_dvd_right (widths ms).sum (lcmL ms))
  refine sxs_cons ?_
  refine sx_asg ?_
  refine ex_call (ok_share T) (Nat.le_of_ble_eq_true rfl) rfl ?_
  refine ax1 ?_
  refine ex_name (i := 0) rfl rfl rfl ?_
  refine ⟨ms, rfl, hm, ?_⟩
  refine gx_tup (n := 2) ⟨_, rfl, rfl, ?_⟩
  refine gxs_cons ?_
  refine gx_name (i := 1) rfl rfl ?_
  refine gxs_cons ?_
  refine gx_name (i := 2) rfl rfl ?_
  refine gxs_nil ?_
  refine sxs_cons ?_
  refine sx_if ?_
  refine tx_gt ?_
  refine ex_name (i := 1) rfl rfl rfl ?_
  refine ex_name (i := 2) rfl rfl rfl ?_
  refine v_gt_nat ?_
  refine v_bl ?_
  refine cnd_p (fun hb => ?_) fun hb => ?_
  ·
    refine sxs_one ?_
    refine T.rNoTelling _ _ _ _ _ _ _ _ _ (Nat.le_of_ble_eq_true rfl) rfl rfl (fun _ => rfl) (fun _ => rfl) ?_
    refine ax2 ?_
    refine ex_name (i := 1) rfl rfl rfl ?_
    refine ex_name (i := 2) rfl rfl rfl ?_
    exact ⟨rfl, M, MSub.refl M, qE (Nat.not_le_of_gt (hg.mp hb))⟩
  · refine sxs_nil ?_
    refine sxs_one ?_
    refine sx_ret ?_
    refine ex_name (i := 0) rfl rfl rfl ?_
    exact rt_of (q (Nat.le_of_not_gt fun z => hb (hg.mpr z)))
def sp_need_hand (g : Gb) : DSp := fun ds M Q E => ∃ ms, ∃ h : Nat, ds = [hndD g ms, natD h] ∧ (h < ms.length → Q (natD h) M) ∧ (¬ h < ms.length → E (ga g "NoHand") ["hand"] [natD h] M)
theorem ok_need_hand (T : Tb g) : Kn g "need_hand" 4 ["hands", "hand"] (sp_need_hand g) := by
  refine T.k_need_hand fun f fd F => fn_def (N := ["hands", "hand"]) F ⟨rfl, rfl, rfl, by decide +kernel, rfl, by decide +kernel, by decide +kernel⟩ (by rintro _ _ _ _ ⟨_, _, rfl, _⟩; rfl) ?_
  rintro _ M Qd Ed cd ⟨ms, h, rfl, q, qE⟩
  refine sxs_cons ?_
  refine sx_if ?_
  refine tx_not ?_
  refine tx_val ?_
  refine ex_call (ok_is_below T) (Nat.le_of_ble_eq_true rfl) rfl ?_
  refine ax2 ?_
  refine ex_name (i := 1) rfl rfl rfl ?_
  refine ex_fld T.cls_Hands T.no_Hands_many ?_
  refine ex_name (i := 0) rfl rfl rfl ?_
  refine ⟨_, _, _, ⟨rfl, rfl, rfl⟩, rfl, ?_⟩
  refine ⟨_, _, rfl, ?_⟩
  by_cases hh : h < ms.length
  · refine cnd_f (by simp; omega) ?_
    refine sxs_nil ?_
    refine sxs_one ?_
    refine sx_ret ?_
    refine ex_name (i := 1) rfl rfl rfl ?_
    exact rt_of (q hh)
  · refine cnd_t (by simp; omega) ?_
    refine sxs_one ?_
    refine T.rNoHand _ _ _ _ _ _ _ _ _ (Nat.le_of_ble_eq_true rfl) rfl rfl (fun _ => rfl) (fun _ => rfl) ?_
    refine ax1 ?_
    refine ex_name (i := 1) rfl rfl rfl ?_
    exact ⟨rfl, M, MSub.refl M, qE hh⟩
end DL

set_option Elab.async false
set_option linter.all false
set_option maxRecDepth 100000
set_option maxHeartbeats 1000000
/-! # The D-layer, part 12: enumerate over a tuple, zip of three -/
namespace DL
open PySem PySem.Spec PyProof.Rows L2
/-! ### enumerate(tuple) -/
theorem meets_enumT (l : Addr) (items : Array Value) : Meets (Builtin.«enumerate.__new__» ⟨[.type "enumerate", .ref l], []⟩) (fun _ R s => s.heap.IsTuple l items ∧
    R (.ok (.ret (.ref (s.heap.push { cls := .type "tuple_iterator", data := .fields #[.ref l, .int 0 0] }).objs.size))) { s with heap := (s.heap.push { cls := .type "tuple_iterator", data := .fields #[.ref l, .int 0 0] }).push { cls := .type "enumerate", data := .fields #[.none, .bool false, .ref s.heap.objs.size, rawInt 0, .none, .none] } }) :=
  .of_wp fun prog w A R s h => by
    obtain ⟨hp, g, d, tk, os⟩ := s
    obtain ⟨h1, h⟩ := h
    have hsub := sub_enumerate
    have q1 : ∀ {A' : Around} {E : Value → Shared → Prop} {Q : Value → Shared → Prop}, Q (.ref hp.objs.size) ⟨hp.push { cls := .type "tuple_iterator", data := .fields #[.ref l, .int 0 0] }, g, d, tk, os⟩ → wpAny (model prog w) A' (pyIter (.ref l)) Q E ⟨hp, g, d, tk, os⟩ :=
      fun q => (begins_tuple l items).iter prog w _ _ ⟨hp, g, d, tk, os⟩ _ h1 q
    wp_walk using q1
    refine wpAny_stack_any fun st => wpAny_pure ?_
    split
    · rename_i c _ _ _ _ _
      cases (c == Value.type "enumerate")
      · wp_walk using q1
        exact ⟨_, rfl, h⟩
      · wp_walk using q1
        exact ⟨_, rfl, h⟩
    · wp_walk using q1
      exact ⟨_, rfl, h⟩
section
variable {prog : Program} {w : World} {A : Around} {E : Value → Shared → Prop} {s : Shared}
theorem call_enumT {l : Addr} {items : Array Value} {Q : Value → Shared → Prop} (hL : s.heap.IsTuple l items)
    (h : ∀ h', IsEnum h' (s.heap.objs.size + 1) s.heap.objs.size 0 .none → h'.IsTupleIter s.heap.objs.size l 0 → (∀ b o, s.heap.get? b = some o → h'.get? b = some o) → Q (.ref (s.heap.objs.size + 1)) { s with heap := h' }) :
    wpAny (model prog w) A (call (.type "enumerate") [.ref l]) Q E s := by
  refine callType_new F.called_enumerate (by decide) (F.typeCall_enumerate_1 _) (F.newCall_enumerate_1 _) (fun obj => F.args_object_init_2 obj _) F.entry_enumerate_new (meets_enumT l items) ⟨hL, ?_⟩
  have hz : (s.heap.push { cls := .type "tuple_iterator", data := .fields #[.ref l, .int 0 0] }).objs.size = s.heap.objs.size + 1 := Heap.size_push ..
  show _ ∧ _
  rw [hz]
  have he : IsEnum ((s.heap.push { cls := .type "tuple_iterator", data := .fields #[.ref l, .int 0 0] }).push { cls := .type "enumerate", data := .fields #[.none, .bool false, .ref s.heap.objs.size, rawInt 0, .none, .none] }) (s.heap.objs.size + 1) s.heap.objs.size 0 .none := by
    have q := Heap.get?_push_size (s.heap.push { cls := .type "tuple_iterator", data := .fields #[.ref l, .int 0 0] }) (o := { cls := .type "enumerate", data := .fields #[.none, .bool false, .ref s.heap.objs.size, rawInt 0, .none, .none] }) rfl
    rw [hz] at q
    exact q
  exact ⟨⟨_, he, rfl⟩, h _ he ⟨_, Heap.get?_push_of_some _ (Heap.get?_push_size _ rfl), rfl, rfl⟩ fun b o x => Heap.get?_push_of_some _ (Heap.get?_push_of_some _ x)⟩
end
def IteT (K : PySem.W.Frag) (a : Addr) : It :=
  ⟨fun i H => ∃ (xs : List V) (x : V), SqT K H a xs ∧ xs[i]? = some x, fun i H v H' => ∃ T x, v = .ref T ∧ H T = none ∧ H' = upd H T (.tup [.int (i : Nat), x]) ∧ ∀ xs, SqT K H a xs → xs[i]? = some x, fun i H => ∃ xs : List V, SqT K H a xs ∧ xs.length = i⟩
theorem turn_enumT {P : Program} {w : World} {K : PySem.W.Frag} {elts : List Expr} {kk : Nat} {tpos : Pos} {a e it : Addr} (hea : e ≠ a) (hai : a ≠ it) (hei : e ≠ it) :
    Turn P w K (.Tuple elts kk tpos) (IteT K a) [e, it] e (fun i h => (∃ old, IsEnum h e it ((i : Nat) : Int) old) ∧ h.IsTupleIter it a i) where
  mem := by simp
  obj := fun i h st b hb => by
    obtain ⟨⟨old, he⟩, o, ho, hc, hd⟩ := st
    have e' : b = e ∨ b = it := by simpa using hb
    rcases e' with z | z
    · rw [z]
      exact ⟨_, he, fun v q => nomatch q⟩
    · rw [z]
      exact ⟨o, ho, fun v q => by rw [hd] at q; cases q⟩
  keep := fun i h h' st k => by
    obtain ⟨⟨old, he⟩, hi⟩ := st
    exact ⟨⟨old, k e (by simp) _ he⟩, hi.at fun o q => k it (by simp) o q⟩
  item := by
    intro X hP hw hK hc i pins s σ H E I hf st hg
    subst hP hw hK
    obtain ⟨⟨old, he⟩, hit⟩ := st
    obtain ⟨xs, x, hq, hx⟩ := hg
    obtain ⟨its, rv, p, hz⟩ := I.tuple hq
    obtain ⟨u, hu, ru⟩ := rv.get hx
    have hel : e < s.heap.objs.size := Heap.lt_size he
    have hil : it < s.heap.objs.size := by
      obtain ⟨_, q, _⟩ := id hit
      exact Heap.lt_size q
    have hlt : i < its.toArray.size := by
      have := (List.getElem?_eq_some_iff.mp hu).1
      simpa using this
    refine wpAny_pyNext_enum_itemD (Draws.tuple (A := X.A.in1) (show X.A.in1.handled = none from I.ok.hd hc) it a hai its.toArray) he ⟨hit, p⟩ hlt hei (by simp [hei, hea]) fun y h' tk hP ho st' hT hsz hk => ?_
    have ey : y = u := by
      have h1 : its[i]? = some y := by simpa using hP
      rw [hu] at h1
      exact (Option.some.inj h1).symm
    subst ey
    refine ⟨_, rfl, wpAny_letOwnedTupleGo_enum (s := { s with heap := h', toks := tk + 1 }) ho fun h'' he' sb => ?_⟩
    have hT2 : h''.get? s.heap.objs.size = some { cls := .type "tuple", data := .seq #[.int i tk, y] } := (sb.2 _ (Nat.ne_of_gt hel)).trans hT
    have new : ObjOk X.prog X.w (upd H s.heap.objs.size (.tup [.int (i : Nat), x])) h'' s.heap.objs.size (.tup [.int (i : Nat), x]) :=
      ⟨by show 2 ≤ sizeLine; decide, [.int i tk, y], .cons ⟨_, rfl⟩ (.cons ru .nil), ⟨_, hT2, rfl, _, rfl⟩⟩
    have I1 : Inv X pins σ (upd H s.heap.objs.size (.tup [.int (i : Nat), x])) { s with heap := h'', toks := tk + 1 } :=
      I.turnedNew (ch := [e, it]) (fun b ob hb q => (sb.2 b (fun z => hb (by simp [z]))).trans (hk b ob (fun z => hb (by simp [z])) (fun z => hb (by simp [z])) q)) hf (Nat.le_refl _) new
    refine ⟨.ref s.heap.objs.size, _, I1, rfl, ⟨_, x, rfl, I.hok.fresh (Nat.le_refl _), rfl, fun ys hy => by rw [I.tuple_inj hy hq]; exact hx⟩, ⟨⟨y, ?_⟩, st'.1.at fun o q => (sb.2 it (Ne.symm hei)).trans q⟩, fun b hb => ?_⟩
    · have e1 : ((i + 1 : Nat) : Int) = (i : Int) + 1 := by omega
      rw [e1]
      exact he'
    · have hb' : b < s.heap.objs.size := by
        have e' : b = e ∨ b = it := by simpa using hb
        rcases e' with z | z
        · rw [z]
          exact hel
        · rw [z]
          exact hil
      rw [upd_ne (Nat.ne_of_lt hb')]
      exact (hf b hb).1
  done := by
    intro X hP hw hK hc i pins s σ H E I hf st hg
    subst hP hw hK
    obtain ⟨⟨old, he⟩, hit⟩ := st
    obtain ⟨xs, hq, hx⟩ := hg
    obtain ⟨its, rv, p, hz⟩ := I.tuple hq
    have hl := rv.length
    have hn : i = its.toArray.size := by simp; omega
    subst hn
    obtain ⟨f0, f1, f2, f3, f4, f5⟩ := hf it (by simp)
    exact wpAny_pyNext_enum_endD (Draws.tuple (A := X.A.in1) (show X.A.in1.handled = none from I.ok.hd hc) it a hai its.toArray) he ⟨hit, p⟩ fun h' eb => ⟨rfl, I.turned (t' := s.toks) (fun b o hb q => eb b o hb q) f0 f1 f3 f4 f5⟩
  self := fun A i s Q E st h => by
    obtain ⟨⟨_, he⟩, _⟩ := st
    exact wpAny_pyIter_enum he h
def iEnumT (K : PySem.W.Frag) (ta : TA) : TI := fun σ H R => ta σ H fun vs H1 => ∃ a xs, vs = [.ref a] ∧ SqT K H1 a xs ∧ R (IteT K a) H1
theorem pi_enumT {X : Cx} {e : Expr} {ta : TA} {p pos tpos : Pos} {elts : List Expr} {kk : Nat} (hg : Gl X "enumerate") (hm : X.mg "enumerate" = none) (ha : PA X [e] ta) (hs : starEach [e] X.env = [(false, eval e X.env)] := by rfl) :
    PI X (.Tuple elts kk tpos) (.Call (.Name "enumerate" p) [e] [] pos) (iEnumT X.K ta) := by
  refine ⟨fun pins s σ H R I h => ?_⟩
  refine Call_ (ld_blt I hg hm boot_enumerate (PyProof.Rows.callWith_type1 (thn (ha.run pos pins s σ H _ I h) fun us s1 ⟨vs, H1, I1, r1, q1⟩ => ?_) hs rfl))
  obtain ⟨a, xs, ex, hq, q⟩ := q1
  subst ex
  cases r1 with
  | cons r rr =>
    cases rr
    cases r
    obtain ⟨its, rv, p', hz⟩ := I1.tuple hq
    obtain ⟨oa, hoa, _⟩ := id p'
    have hal : a < s1.heap.objs.size := Heap.lt_size hoa
    refine call_enumT p' fun h' he hit hk => wpAny_pyIter_enum he ?_
    have I2 : Inv X pins σ H1 { s1 with heap := h' } := I1.kept (t' := s1.toks) hk
    refine ⟨s1.heap.objs.size + 1, [s1.heap.objs.size + 1, s1.heap.objs.size], _, _, H1, rfl, I2, turn_enumT (a := a) (e := s1.heap.objs.size + 1) (it := s1.heap.objs.size) (Nat.ne_of_gt (Nat.lt_succ_of_lt hal)) (Nat.ne_of_lt hal) (Nat.succ_ne_self _), ⟨⟨.none, he⟩, hit⟩, fun b hb => ?_, q⟩
    have e' : b = s1.heap.objs.size + 1 ∨ b = s1.heap.objs.size := by simpa using hb
    have hle : s1.heap.objs.size ≤ b := by
      rcases e' with z | z
      · rw [z]
        exact Nat.le_add_right _ _
      · rw [z]
        exact Nat.le_refl _
    exact I1.fpOk hle (I1.hok.fresh hle)
section
open Evl (Ex)
variable {g : Gb} {c : Cz} {δ : Sl} {M : Mem} {pos : Pos} {a b : Expr}
theorem ix_enT {elts : List Expr} {kk : Nat} {tpos p : Pos} {QI : List D → (Mem → Prop) → Mem → Prop} (hg : gloB c.sc "enumerate" = true) (hm : g.mg "enumerate" = none) (h : EX g c a δ M fun x M1 => ∃ ds, x = .tup ds ∧ QI (enuD 0 ds) (fun _ => True) M1)
    (hs : ∀ env, starEach [a] env = [(false, eval a env)] := by intro _; rfl) : IX g c (.Tuple elts kk tpos) (.Call (.Name "enumerate" p) [a] [] pos) δ M QI := by
  intro X F0 G F σ H eF st sl
  refine wI_of (pi_enumT (G.gl hg) (by rw [G.mg]; exact hm) (pa_cons pe_wE pa_nil (hs X.env)) (hs X.env)) (wE_mono (h X F0 G F σ H eF st sl) fun v H1 q => ?_)
  obtain ⟨F1, M1, x, e1, st1, r, ds, rfl, q⟩ := q
  obtain ⟨p, vs, rfl, h2, h3⟩ := r
  refine ⟨p, vs, rfl, by rw [G.K]; exact Evl.ex_t st1.ex h2, F1, M1, _, fun _ => True, e1, st1, ?_, trivial, q⟩
  rw [G.K]
  refine ⟨fun i F' M' H' e s stl hi => ?_, fun F' M' H' e s stl => ?_, fun i F' M' H' u H3 e s stl hi y => ?_⟩
  · rw [enuD_len] at hi
    have hz : i < vs.length := by rw [h3.length]; exact hi
    exact ⟨vs, vs[i], Evl.ex_t (e.trans s.ex) h2, by simp [hz]⟩
  · exact ⟨vs, Evl.ex_t (e.trans s.ex) h2, by rw [h3.length, enuD_len]⟩
  · obtain ⟨T, w, rfl, hT, rfl, hy⟩ := y
    obtain ⟨d, g1, g2⟩ := (h3.mono e).get' (hy vs (Evl.ex_t (e.trans s.ex) h2))
    obtain ⟨f1, f2⟩ := s.frozen (o := .tup [.int (i : Nat), w]) hT
    refine ⟨_, _, f1, f2, enuD_get g1, T, _, rfl, SqT.of upd_same, .cons ?_ (.cons (g2.mono f1) .nil)⟩
    show V.int (i : Nat) = V.int (0 + (i : Int))
    rw [Int.zero_add]
end
/-! ### zip(tuple, list, tuple) -/
def Itz3 (K : PySem.W.Frag) (a b d : Addr) : It :=
  ⟨fun i H => ∃ (xs ys zs : List V) (x y z : V), SqT K H a xs ∧ SqL K H b ys ∧ SqT K H d zs ∧ xs[i]? = some x ∧ ys[i]? = some y ∧ zs[i]? = some z,
    fun i H v H' => ∃ T x y z, v = .ref T ∧ H T = none ∧ H' = upd H T (.tup [x, y, z]) ∧ (∀ xs, SqT K H a xs → xs[i]? = some x) ∧ (∀ ys, SqL K H b ys → ys[i]? = some y) ∧ ∀ zs, SqT K H d zs → zs[i]? = some z,
    fun i H => ∃ xs ys zs : List V, SqT K H a xs ∧ SqL K H b ys ∧ SqT K H d zs ∧ xs.length = i ∧ ys.length = i ∧ zs.length = i⟩
theorem turn_zip3 {P : Program} {w : World} {K : PySem.W.Frag} {elts : List Expr} {kk : Nat} {tpos : Pos} {a b d z TI TO i1 i2 i3 : Addr} (S : ZipSep3 z TI TO i1 i2 i3 [i1, a] [i2, b] [i3, d]) (n1 : a ≠ i1) (n2 : b ≠ i2) (n3 : d ≠ i3) :
    Turn P w K (.Tuple elts kk tpos) (Itz3 K a b d) [z, TI, TO, i1, i2, i3] z (fun i h => IsZip h z TI TO .none ∧ IsTupOf3 h TI (.ref i1) (.ref i2) (.ref i3) ∧ (∃ x y u, IsTupOf3 h TO x y u) ∧ h.IsTupleIter i1 a i ∧ h.IsListIter i2 b i ∧ h.IsTupleIter i3 d i) where
  mem := by simp
  obj := fun i h st c hc => by
    obtain ⟨hz, hTI, ⟨x, y, u, hTO⟩, ⟨o1, e1, _, d1⟩, ⟨o2, e2, _, d2⟩, ⟨o3, e3, _, d3⟩⟩ := st
    have e' : c = z ∨ c = TI ∨ c = TO ∨ c = i1 ∨ c = i2 ∨ c = i3 := by simpa using hc
    rcases e' with q | q | q | q | q | q
    · rw [q]; exact ⟨_, hz, fun v q => nomatch q⟩
    · rw [q]; exact ⟨_, hTI, fun v q => nomatch q⟩
    · rw [q]; exact ⟨_, hTO, fun v q => nomatch q⟩
    · rw [q]; exact ⟨o1, e1, fun v q => by rw [d1] at q; cases q⟩
    · rw [q]; exact ⟨o2, e2, fun v q => by rw [d2] at q; cases q⟩
    · rw [q]; exact ⟨o3, e3, fun v q => by rw [d3] at q; cases q⟩
  keep := fun i h h' st k => by
    obtain ⟨hz, hTI, ⟨x, y, u, hTO⟩, h1, h2, h3⟩ := st
    exact ⟨k z (by simp) _ hz, k TI (by simp) _ hTI, ⟨x, y, u, k TO (by simp) _ hTO⟩, h1.at fun o q => k i1 (by simp) o q, h2.at fun o q => k i2 (by simp) o q, h3.at fun o q => k i3 (by simp) o q⟩
  item := by
    intro X hP hw hK hc i pins s σ H E I hf st hg
    subst hP hw hK
    obtain ⟨hz, hTI, ⟨x0, y0, u0, hTO⟩, h1, h2, h3⟩ := st
    obtain ⟨xs, ys, zs, x, y, u, hqx, hqy, hqz, hx, hy, hu⟩ := hg
    obtain ⟨t1, r1, p1, _⟩ := I.tuple hqx
    obtain ⟨t2, r2, p2, _⟩ := I.list hqy
    obtain ⟨t3, r3, p3, _⟩ := I.tuple hqz
    obtain ⟨v1, hv1, rv1⟩ := r1.get hx
    obtain ⟨v2, hv2, rv2⟩ := r2.get hy
    obtain ⟨v3, hv3, rv3⟩ := r3.get hu
    have hh : X.A.in1.handled = none := I.ok.hd hc
    have hzl : z < s.heap.objs.size := Heap.lt_size hz
    have lt1 : i < t1.toArray.size := by have := (List.getElem?_eq_some_iff.mp hv1).1; simpa using this
    have lt2 : i < t2.toArray.size := by have := (List.getElem?_eq_some_iff.mp hv2).1; simpa using this
    have lt3 : i < t3.toArray.size := by have := (List.getElem?_eq_some_iff.mp hv3).1; simpa using this
    refine wpAny_pyNext_zipD3_item S (Draws.tuple (A := X.A.in1) hh i1 a n1 t1.toArray) (Draws.list (A := X.A.in1) hh i2 b n2 t2.toArray) (Draws.tuple (A := X.A.in1) hh i3 d n3 t3.toArray) hz hTI hTO ⟨h1, p1⟩ ⟨h2, p2.isList⟩ ⟨h3, p3⟩ lt1 lt2 lt3 fun y1 y2 y3 h' tk P1 P2 P3 z' TO' s1' s2' s3' hT hsz hk => ?_
    have f1 : y1 = v1 := by
      have q : t1[i]? = some y1 := by simpa using P1
      rw [hv1] at q
      exact (Option.some.inj q).symm
    have f2 : y2 = v2 := by
      have q : t2[i]? = some y2 := by simpa using P2
      rw [hv2] at q
      exact (Option.some.inj q).symm
    have f3 : y3 = v3 := by
      have q : t3[i]? = some y3 := by simpa using P3
      rw [hv3] at q
      exact (Option.some.inj q).symm
    subst f1 f2 f3
    refine ⟨_, rfl, wpAny_letOwnedTupleGo_zip (s := { s with heap := h', toks := tk }) z' fun h'' z'' sb => ?_⟩
    have hT2 : h''.get? s.heap.objs.size = some { cls := .type "tuple", data := .seq #[y1, y2, y3] } := (sb.2 _ (Nat.ne_of_gt hzl)).trans hT
    have new : ObjOk X.prog X.w (upd H s.heap.objs.size (.tup [x, y, u])) h'' s.heap.objs.size (.tup [x, y, u]) :=
      ⟨by show 3 ≤ sizeLine; decide, [y1, y2, y3], .cons rv1 (.cons rv2 (.cons rv3 .nil)), ⟨_, hT2, rfl, _, rfl⟩⟩
    have I1 : Inv X pins σ (upd H s.heap.objs.size (.tup [x, y, u])) { s with heap := h'', toks := tk } :=
      I.turnedNew (t' := tk) (ch := [z, TI, TO, i1, i2, i3]) (fun c o hb q => (sb.2 c (fun q' => hb (by simp [q']))).trans (hk c o (fun q' => hb (by simp [q'])) (fun q' => hb (by simp [q'])) (fun q' => hb (by simp [q'])) (fun q' => hb (by simp [q'])) (fun q' => hb (by simp [q'])) q)) hf (Nat.le_refl _) new
    have zn : ∀ {i0 : Addr} {fp : List Addr}, z ∉ fp → i0 ∈ fp → i0 ≠ z := fun h1 h2 h3 => h1 (h3 ▸ h2)
    refine ⟨.ref s.heap.objs.size, _, I1, rfl, ⟨_, x, y, u, rfl, I.hok.fresh (Nat.le_refl _), rfl, fun l hl => by rw [I.tuple_inj hl hqx]; exact hx, fun l hl => by rw [I.list_inj hl hqy]; exact hy, fun l hl => by rw [I.tuple_inj hl hqz]; exact hu⟩, ⟨z'', ?_, ⟨y1, y2, y3, ?_⟩, ?_, ?_, ?_⟩, fun c hcm => ?_⟩
    · exact (sb.2 _ S.TIz).trans (hk _ _ S.TIz S.TITO S.TIi1 S.TIi2 S.TIi3 hTI)
    · exact (sb.2 _ S.TOz).trans TO'
    · exact s1'.1.at fun o q => (sb.2 _ (zn S.zf1 S.mem1)).trans q
    · exact s2'.1.at fun o q => (sb.2 _ (zn S.zf2 S.mem2)).trans q
    · exact s3'.1.at fun o q => (sb.2 _ (zn S.zf3 S.mem3)).trans q
    · have hlt : c < s.heap.objs.size := by
        have e' : c = z ∨ c = TI ∨ c = TO ∨ c = i1 ∨ c = i2 ∨ c = i3 := by simpa using hcm
        rcases e' with q | q | q | q | q | q
        · rw [q]; exact hzl
        · rw [q]; exact Heap.lt_size hTI
        · rw [q]; exact Heap.lt_size hTO
        · rw [q]; obtain ⟨_, e1, _⟩ := h1; exact Heap.lt_size e1
        · rw [q]; obtain ⟨_, e2, _⟩ := h2; exact Heap.lt_size e2
        · rw [q]; obtain ⟨_, e3, _⟩ := h3; exact Heap.lt_size e3
      rw [upd_ne (Nat.ne_of_lt hlt)]
      exact (hf c hcm).1
  done := by
    intro X hP hw hK hc i pins s σ H E I hf st hg
    subst hP hw hK
    obtain ⟨hz, hTI, ⟨x0, y0, u0, hTO⟩, h1, h2, h3⟩ := st
    obtain ⟨xs, ys, zs, hqx, hqy, hqz, l1, l2, l3⟩ := hg
    obtain ⟨t1, r1, p1, _⟩ := I.tuple hqx
    obtain ⟨t2, r2, p2, _⟩ := I.list hqy
    obtain ⟨t3, r3, p3, _⟩ := I.tuple hqz
    have hh : X.A.in1.handled = none := I.ok.hd hc
    have m1 := r1.length
    have m2 := r2.length
    have m3 := r3.length
    exact wpAny_pyNext_zipD3_end S (Draws.tuple (A := X.A.in1) hh i1 a n1 t1.toArray) (Draws.list (A := X.A.in1) hh i2 b n2 t2.toArray) (Draws.tuple (A := X.A.in1) hh i3 d n3 t3.toArray) hz hTI hTO ⟨h1, p1⟩ ⟨h2, p2.isList⟩ ⟨h3, p3⟩ (by simp; omega) (by simp; omega) (by simp; omega) (.inl (by simp; omega)) fun h' tk hk =>
      ⟨rfl, I.turnedL (t' := tk) (ch := [z, TI, TO, i1, i2, i3]) (fun c o hb q => hk c o (fun q' => hb (by simp [q'])) (fun q' => hb (by simp [q'])) (fun q' => hb (by simp [q'])) (fun q' => hb (by simp [q'])) (fun q' => hb (by simp [q'])) q) hf⟩
  self := fun A i s Q E st h => wpAny_pyIter_zip st.1 h
end DL

set_option Elab.async false
set_option linter.all false
set_option maxRecDepth 100000
set_option maxHeartbeats 1000000
/-! # The D-layer, part 13: zip of three begins -/
namespace DL
open PySem PySem.Spec PyProof.Rows L2
open Evl (Ex)
def iZip3 (K : PySem.W.Frag) (ta : TA) : TI := fun σ H R => ta σ H fun vs H1 => ∃ a b d xs ys zs, vs = [.ref a, .ref b, .ref d] ∧ SqT K H1 a xs ∧ SqL K H1 b ys ∧ SqT K H1 d zs ∧ R (Itz3 K a b d) H1
theorem pi_zip3 {X : Cx} {e e2 e3 : Expr} {ta : TA} {p pos tpos : Pos} {elts : List Expr} {kk : Nat} (hg : Gl X "zip") (hm : X.mg "zip" = none) (ha : PA X [e, e2, e3] ta)
    (hs : starEach [e, e2, e3] X.env = (false, eval e X.env) :: starEach [e2, e3] X.env := by rfl) (hpl : (backTo pos (starEach [e2, e3] X.env)).any (·.1) = false := by rfl) :
    PI X (.Tuple elts kk tpos) (.Call (.Name "zip" p) [e, e2, e3] [] pos) (iZip3 X.K ta) := by
  refine ⟨fun pins s σ H R I h => ?_⟩
  refine Call_ (ld_blt I hg hm PyProof.Rows.boot_zip (PyProof.Rows.callWith_type1 (thn (ha.run pos pins s σ H _ I h) fun us s1 ⟨vs, H1, I1, r1, q1⟩ => ?_) hs hpl))
  obtain ⟨a, b, d, xs, ys, zs, ex, hqx, hqy, hqz, q⟩ := q1
  subst ex
  cases r1 with
  | cons r rr =>
    cases rr with
    | cons r' rr =>
      cases rr with
      | cons r'' rr =>
        cases rr
        cases r
        cases r'
        cases r''
        obtain ⟨t1, rv1, p1, _⟩ := I1.tuple hqx
        obtain ⟨t2, rv2, p2, _⟩ := I1.list hqy
        obtain ⟨t3, rv3, p3, _⟩ := I1.tuple hqz
        obtain ⟨o1, ho1, _⟩ := id p1
        obtain ⟨o3, ho3, _⟩ := id p3
        have l1 : a < s1.heap.objs.size := Heap.lt_size ho1
        have l2 : b < s1.heap.objs.size := p2.lt
        have l3 : d < s1.heap.objs.size := Heap.lt_size ho3
        refine zip_begins3 (begins_tuple a t1.toArray) (begins_list b t2.toArray) (begins_tuple d t3.toArray) p1 p2.isList p3 fun h' hz hTI hTO g1 g2 g3 hsz hk => wpAny_pyIter_zip hz ?_
        have I2 : Inv X pins σ H1 { s1 with heap := h' } := I1.kept (t' := s1.toks) hk
        have S := zip_sep3 (N := s1.heap.objs.size) (fp1 := [a]) (fp2 := [b]) (fp3 := [d]) (fun c hc => by rw [List.mem_singleton.mp hc]; exact l1) (fun c hc => by rw [List.mem_singleton.mp hc]; exact l2) (fun c hc => by rw [List.mem_singleton.mp hc]; exact l3)
        refine ⟨s1.heap.objs.size + 5, [s1.heap.objs.size + 5, s1.heap.objs.size + 3, s1.heap.objs.size + 4, s1.heap.objs.size, s1.heap.objs.size + 1, s1.heap.objs.size + 2], _, _, H1, rfl, I2,
          turn_zip3 S (Nat.ne_of_lt l1) (Nat.ne_of_lt (Nat.lt_succ_of_lt l2)) (Nat.ne_of_lt (Nat.lt_succ_of_lt (Nat.lt_succ_of_lt l3))), ⟨hz, hTI, ⟨_, _, _, hTO⟩, ⟨_, g1, rfl, rfl⟩, ⟨_, g2, rfl, rfl⟩, ⟨_, g3, rfl, rfl⟩⟩, fun c hc => ?_, q⟩
        have e' : c = s1.heap.objs.size + 5 ∨ c = s1.heap.objs.size + 3 ∨ c = s1.heap.objs.size + 4 ∨ c = s1.heap.objs.size ∨ c = s1.heap.objs.size + 1 ∨ c = s1.heap.objs.size + 2 := by simpa using hc
        have hle : s1.heap.objs.size ≤ c := by
          rcases e' with z | z | z | z | z | z
          all_goals (rw [z]; first | exact Nat.le_refl _ | exact Nat.le_add_right _ _)
        exact I1.fpOk hle (I1.hok.fresh hle)
variable {g : Gb} {c : Cz} {δ : Sl} {M : Mem} {pos : Pos} {a b d : Expr}
theorem three {R : V → V → V → Hp → Prop} {X : Cx} {F0 F H : Hp} {σ : L2.St} {Q2 : D → D → D → Mem → Prop} (h : EX g c a δ M fun x M1 => EX g c b δ M1 fun y M2 => EX g c d δ M2 fun z M3 => Q2 x y z M3) (G : Good g c X F0) (e : Ex F0 F) (st : Sto g.K F M H) (sl : SlotsR g.K F δ σ)
    (k : ∀ F' H' M' v u w x y z, Ex F F' → Sto g.K F' M' H' → Rep g.K F' x v → Rep g.K F' y u → Rep g.K F' z w → Q2 x y z M' → R v u w H') : wE X a σ H fun v H1 => wE X b σ H1 fun u H2 => wE X d σ H2 fun w H3 => R v u w H3 := by
  refine wE_mono (h X F0 G F σ H e st sl) fun v H1 q => ?_
  obtain ⟨F1, M1, x, e1, st1, rx, h1⟩ := q
  refine wE_mono (h1 X F0 G F1 σ H1 (e.trans e1) st1 (sl.mono e1)) fun u H2 q2 => ?_
  obtain ⟨F2, M2, y, e2, st2, ry, h2⟩ := q2
  refine wE_mono (h2 X F0 G F2 σ H2 ((e.trans e1).trans e2) st2 (sl.mono (e1.trans e2))) fun w H3 q3 => ?_
  obtain ⟨F3, M3, z, e3, st3, rz, h3⟩ := q3
  exact k F3 H3 M3 v u w x y z ((e1.trans e2).trans e3) st3 (rx.mono (e2.trans e3)) (ry.mono e3) rz h3
def zip3D : List D → List D → List D → List D
  | x :: xs, y :: ys, z :: zs => .tup [x, y, z] :: zip3D xs ys zs
  | _, _, _ => []
theorem zip3D_get : ∀ {xs ys zs : List D} {i : Nat} {x y z : D}, xs[i]? = some x → ys[i]? = some y → zs[i]? = some z → (zip3D xs ys zs)[i]? = some (.tup [x, y, z])
  | [], _, _, _, _, _, _, h, _, _ => by simp at h
  | _ :: _, [], _, _, _, _, _, _, h, _ => by simp at h
  | _ :: _, _ :: _, [], _, _, _, _, _, _, h => by simp at h
  | x :: xs, y :: ys, z :: zs, 0, _, _, _, h1, h2, h3 => by
    simp at h1 h2 h3
    subst h1 h2 h3
    rfl
  | x :: xs, y :: ys, z :: zs, i + 1, _, _, _, h1, h2, h3 => by
    have := zip3D_get (xs := xs) (ys := ys) (zs := zs) (i := i) (by simpa using h1) (by simpa using h2) (by simpa using h3)
    simpa [zip3D] using this
theorem zip3D_len : ∀ {xs ys zs : List D}, xs.length = ys.length → xs.length = zs.length → (zip3D xs ys zs).length = xs.length
  | [], _, _, _, _ => rfl
  | _ :: _, [], _, h, _ => by cases h
  | _ :: _, _ :: _, [], _, h => by cases h
  | x :: xs, y :: ys, z :: zs, h1, h2 => by
    show (zip3D xs ys zs).length + 1 = _
    rw [zip3D_len (Nat.succ.inj h1) (Nat.succ.inj h2)]
    rfl
theorem ix_zip3 {elts : List Expr} {kk : Nat} {tpos p : Pos} {QI : List D → (Mem → Prop) → Mem → Prop} (hg : gloB c.sc "zip" = true) (hm : g.mg "zip" = none)
    (h : EX g c a δ M fun x M1 => EX g c b δ M1 fun y M2 => EX g c d δ M2 fun z M3 => ∃ xs ys zs, x = .tup xs ∧ LstD M3 y ys ∧ z = .tup zs ∧ xs.length = ys.length ∧ xs.length = zs.length ∧ QI (zip3D xs ys zs) (Still M3 y) M3)
    (hs : ∀ env, starEach [a, b, d] env = (false, eval a env) :: starEach [b, d] env := by intro _; rfl) (hs2 : ∀ env, starEach [b, d] env = (false, eval b env) :: starEach [d] env := by intro _; rfl) (hs3 : ∀ env, starEach [d] env = (false, eval d env) :: starEach [] env := by intro _; rfl) (hpl : ∀ env, (backTo pos (starEach [b, d] env)).any (·.1) = false := by intro _; rfl) :
    IX g c (.Tuple elts kk tpos) (.Call (.Name "zip" p) [a, b, d] [] pos) δ M QI := by
  intro X F0 G F σ H eF st sl
  refine wI_of (pi_zip3 (G.gl hg) (by rw [G.mg]; exact hm) (pa_cons pe_wE (pa_cons pe_wE (pa_cons pe_wE pa_nil (hs3 X.env)) (hs2 X.env)) (hs X.env)) (hs X.env) (hpl X.env)) ?_
  refine three (R := fun v u w H2 => ∃ a b d xs ys zs, [v, u, w] = [V.ref a, V.ref b, V.ref d] ∧ SqT X.K H2 a xs ∧ SqL X.K H2 b ys ∧ SqT X.K H2 d zs ∧ ∃ F' M' ds stay, Ex F F' ∧ Sto g.K F' M' H2 ∧ Wk g F' (Itz3 X.K a b d) ds stay ∧ stay M' ∧ QI ds stay M') h G eF st sl fun F' H' M' v u w x y z e1 s1 r1 r2 r3 k => ?_
  obtain ⟨xs, ys, zs, rfl, hy, rfl, hl1, hl2, q⟩ := k
  obtain ⟨p1, vs, rfl, h1, h2⟩ := r1
  obtain ⟨p2, us, rfl, h3, h4⟩ := hy.rep s1 r2
  obtain ⟨p3, ws, rfl, h5, h6⟩ := r3
  refine ⟨p1, p2, p3, vs, us, ws, rfl, by rw [G.K]; exact Evl.ex_t s1.ex h1, SqL.of h3, by rw [G.K]; exact Evl.ex_t s1.ex h5, F', M', _, Still M' y, e1, s1, ?_, Still.self M' y, q⟩
  rw [G.K]
  have lz := zip3D_len hl1 hl2
  refine ⟨fun i F2 M2 H2 e s stl hi => ?_, fun F2 M2 H2 e s stl => ?_, fun i F2 M2 H2 u H3 e s stl hi yl => ?_⟩
  · obtain ⟨us', h7, h8⟩ := list_src (H := H') hy r2 rfl e s stl
    rw [lz] at hi
    have a1 : i < vs.length := by rw [h2.length]; exact hi
    have a2 : i < us'.length := by rw [h8.length]; omega
    have a3 : i < ws.length := by rw [h6.length]; omega
    exact ⟨vs, us', ws, vs[i], us'[i], ws[i], Evl.ex_t (e.trans s.ex) h1, SqL.of h7, Evl.ex_t (e.trans s.ex) h5, by simp [a1], by simp [a2], by simp [a3]⟩
  · obtain ⟨us', h7, h8⟩ := list_src (H := H') hy r2 rfl e s stl
    exact ⟨vs, us', ws, Evl.ex_t (e.trans s.ex) h1, SqL.of h7, Evl.ex_t (e.trans s.ex) h5, by rw [h2.length, lz], by rw [h8.length, lz, hl1], by rw [h6.length, lz, hl2]⟩
  · obtain ⟨us', h7, h8⟩ := list_src (H := H') hy r2 rfl e s stl
    obtain ⟨T, w1, w2, w3, rfl, hT, rfl, hy1, hy2, hy3⟩ := yl
    obtain ⟨d1, g1, k1⟩ := (h2.mono e).get' (hy1 vs (Evl.ex_t (e.trans s.ex) h1))
    obtain ⟨d2, g2, k2⟩ := h8.get' (hy2 us' (SqL.of h7))
    obtain ⟨d3, g3, k3⟩ := (h6.mono e).get' (hy3 ws (Evl.ex_t (e.trans s.ex) h5))
    obtain ⟨f1, f2⟩ := s.frozen (o := .tup [w1, w2, w3]) hT
    exact ⟨_, _, f1, f2, zip3D_get g1 g2 g3, T, _, rfl, SqT.of upd_same, .cons (k1.mono f1) (.cons (k2.mono f1) (.cons (k3.mono f1) .nil))⟩
theorem zip3D_map {α β γ : Type} {f : α → D} {h : β → D} {k : γ → D} : ∀ {xs : List α} {ys : List β} {zs : List γ}, zip3D (xs.map f) (ys.map h) (zs.map k) = (xs.zip (ys.zip zs)).map fun z => .tup [f z.1, h z.2.1, k z.2.2]
  | [], _, _ => by simp [zip3D]
  | _ :: _, [], _ => by simp [zip3D]
  | _ :: _, _ :: _, [] => by simp [zip3D]
  | x :: xs, y :: ys, z :: zs => by
    rw [List.map_cons, List.map_cons, List.map_cons, List.zip_cons_cons, List.zip_cons_cons, List.map_cons, ← zip3D_map]
    rfl
end DL

set_option Elab.async false
set_option linter.all false
set_option maxRecDepth 100000
set_option maxHeartbeats 1000000
/-! # The program's defs: dials -/
namespace DL
open PySem PySem.Spec PyProof.Rows L2
open Evl (Ex)
local macro_rules | `(tactic| walk_at "sw") => `(tactic| (intro env h; obtain ⟨sc, _, _, _, _, _, _, _, _⟩ := env; (have h : sc = _ := h); subst h; rfl))
variable {g : Gb}
def laid : Nat → List Nat → List (Nat × Nat)
  | _, [] => []
  | f, w :: r => (f, f + w) :: laid (f + w) r
theorem laid_len : ∀ {ws : List Nat} {f : Nat}, (laid f ws).length = ws.length
  | [], _ => rfl
  | w :: r, f => by
    show (laid (f + w) r).length + 1 = _
    rw [laid_len]
    rfl
def pairD (z : Nat × Nat) : D := .tup [natD z.1, natD z.2]
def sp_laid_out : DSp := fun ds M Q _ => ∃ ws, ds = [.lst (natsD ws)] ∧ ws.length ≤ 1000 ∧ Q (.tup ((laid 0 ws).map pairD)) M
theorem ok_laid_out (T : Tb g) : Kn g "laid_out" 1 ["sizes"] sp_laid_out := by
  refine T.k_laid_out fun f fd F => fn_def (N := ["sizes", "found", "first", "size"]) F ⟨rfl, rfl, rfl, by decide +kernel, rfl, by decide +kernel, by decide +kernel⟩ (by rintro _ _ _ _ ⟨_, rfl, _⟩; rfl) ?_
  rintro _ M Qd Ed cd ⟨ws, rfl, hz, q⟩
  refine sxs_cons ?_
  refine sx_set (i := 1) rfl rfl ?_
  refine ex_lstN ?_
  refine ax_nil ?_
  refine ⟨by show 0 ≤ sizeLine; decide, fun p hp => ?_⟩
  refine sxs_cons ?_
  refine sx_set (i := 2) rfl rfl ?_
  refine ex_int ?_
  refine sxs_cons ?_
  refine sx_for ?_
  refine ix_lst ?_
  refine ex_name (i := 0) rfl rfl rfl ?_
  refine ⟨_, rfl, ?_⟩
  refine for_walk (xs := ws) (fun r δ' M' => ∃ acc f v, acc ++ laid f r = laid 0 ws ∧ acc.length ≤ 1000 ∧ M' = mup M p (.lst (acc.map pairD)) ∧ δ' = [some (.lst (natsD ws)), some (.ref p), some (natD f), v]) ⟨[], 0, _, rfl, by decide, rfl, rfl⟩ (fun _ _ _ _ => trivial) ?_ ?_
  · rintro w r δ' M' ⟨acc, f, v, ha, hal, rfl, rfl⟩
    have hl : acc.length + 1 ≤ 1000 := by
      have := congrArg List.length ha
      rw [List.length_append, laid_len, laid_len, List.length_cons] at this
      omega
    refine gx_name (i := 3) rfl rfl ?_
    refine sxs_cons ?_
    refine sx_expr ?_
    refine ex_append ?_
    refine ex_name (i := 1) rfl rfl rfl ?_
    refine ⟨_, _, rfl, mup_same, ?_⟩
    refine ex_tup ?_
    refine ax2 ?_
    refine ex_name (i := 2) rfl rfl rfl ?_
    refine ex_add ?_
    refine ex_name (i := 2) rfl rfl rfl ?_
    refine ex_name (i := 3) rfl rfl rfl ?_
    refine v_add_nat ?_
    refine ⟨by show 2 ≤ sizeLine; decide, ?_⟩
    refine ⟨_, mup_same, by rw [List.length_map]; exact small1000 (by omega), ?_⟩
    refine sxs_one ?_
    refine sx_aug (i := 2) (f := fun x y => x + y) (fun _ => ip_add) rfl rfl ?_
    refine ⟨_, rfl, ?_⟩
    refine ex_name (i := 3) rfl rfl rfl ?_
    refine ⟨_, rfl, ?_⟩
    refine ⟨acc ++ [(f, f + w)], f + w, some (natD w), ?_, ?_, ?_, rfl⟩
    · rw [List.append_assoc]
      exact ha
    · rw [List.length_append]
      exact hl
    · rw [mup_mup, List.map_append]
      rfl
  · rintro δ' M' ⟨acc, f, v, ha, _, rfl, rfl⟩
    have ha : acc = laid 0 ws := by rw [← ha]; exact (List.append_nil _).symm
    refine sxs_one ?_
    refine sx_ret ?_
    refine ex_tupc rfl T.f_tuple ?_
    refine ex_name (i := 1) rfl rfl rfl ?_
    refine ⟨_, mup_same, ?_⟩
    rw [ha]
    exact rt_sub (MSub.new hp) q
/-- the first stretch with p -/
def stretch : Nat → List (Nat × Nat) → Nat → Option Nat
  | _, [], _ => none
  | k, z :: r, p => if z.1 ≤ p ∧ p < z.2 then some k else stretch (k + 1) r p
def optD : Option Nat → D
  | some k => natD k
  | none => .non
def sp_stretch_with : DSp := fun ds M Q _ => ∃ az p, ds = [.tup (az.map pairD), natD p] ∧ Q (optD (stretch 0 az p)) M
theorem ok_stretch_with (T : Tb g) : Kn g "stretch_with" 1 ["stretches", "place"] sp_stretch_with := by
  refine T.k_stretch_with fun f fd F => fn_def (N := ["stretches", "place", "number", "first", "behind"]) F ⟨rfl, rfl, rfl, by decide +kernel, rfl, by decide +kernel, by decide +kernel⟩ (by rintro _ _ _ _ ⟨_, _, rfl, _⟩; rfl) ?_
  rintro _ M Qd Ed cd ⟨az, p, rfl, q⟩
  refine sxs_cons ?_
  refine sx_for ?_
  refine ix_enT rfl T.f_enumerate ?_
  refine ex_name (i := 0) rfl rfl rfl ?_
  refine ⟨_, rfl, ?_⟩
  rw [show (0 : Int) = ((0 : Nat) : Int) from rfl, enuD_map]
  refine for_walk (fun r δ' M' => ∃ k rest, r = rest.zipIdx k ∧ stretch k rest p = stretch 0 az p ∧ M' = M ∧ ∃ u v w, δ' = [some (.tup (az.map pairD)), some (natD p), u, v, w]) ⟨0, az, rfl, rfl, rfl, _, _, _, rfl⟩ (fun _ _ _ _ => trivial) ?_ ?_
  · rintro ⟨z, i⟩ r δ' M' ⟨k, rest, hr, hs, rfl, u, v, w, rfl⟩
    obtain ⟨rest, rfl, rfl, rfl⟩ : ∃ rest', rest = z :: rest' ∧ i = k ∧ r = rest'.zipIdx (k + 1) := by
      cases rest with
      | nil => cases hr
      | cons y rest' =>
        rw [List.zipIdx_cons] at hr
        injection hr with h1 h2
        injection h1 with h3 h4
        exact ⟨rest', by rw [h3], h4, h2⟩
    refine gx_tup (n := 2) ⟨_, rfl, rfl, ?_⟩
    refine gxs_cons ?_
    refine gx_name (i := 2) rfl rfl ?_
    refine gxs_cons ?_
    refine gx_tup (n := 2) ⟨_, rfl, rfl, ?_⟩
    refine gxs_cons ?_
    refine gx_name (i := 3) rfl rfl ?_
    refine gxs_cons ?_
    refine gx_name (i := 4) rfl rfl ?_
    refine gxs_nil ?_
    refine gxs_nil ?_
    have fin : ¬ (z.1 ≤ p ∧ p < z.2) → stretch (i + 1) rest p = stretch 0 az p := fun hn => by
      rw [← hs]
      show _ = if z.1 ≤ p ∧ p < z.2 then some i else stretch (i + 1) rest p
      rw [if_neg hn]
    refine sxs_one ?_
    refine sx_if ?_
    refine tx_ch (fun _ => op_le) (fun _ => op_lt) ?_
    refine ex_name (i := 3) rfl rfl rfl ?_
    refine ex_name (i := 1) rfl rfl rfl ?_
    refine v_ch (fun hc => ?_) fun hc => ?_
    · have hc : z.1 ≤ p := by simpa using hc
      refine ex_name (i := 4) rfl rfl rfl ?_
      refine ⟨_, rfl, ?_⟩
      refine cnd_p (fun hb => ?_) fun hb => ?_
      ·
        refine sxs_one ?_
        refine sx_ret ?_
        refine ex_name (i := 2) rfl rfl rfl ?_
        have hb : p < z.2 := Int.ofNat_lt.mp hb
        have e : stretch 0 az p = some i := by
          rw [← hs]
          show (if z.1 ≤ p ∧ p < z.2 then some i else _) = _
          rw [if_pos ⟨hc, hb⟩]
        rw [e] at q
        exact rt_of q
      · have hb : ¬ p < z.2 := fun k => hb (Int.ofNat_lt.mpr k)
        refine sxs_nil ?_
        exact ⟨i + 1, rest, rfl, fin (by omega), rfl, _, _, _, rfl⟩
    · have hc : ¬ z.1 ≤ p := by simpa using hc
      refine sxs_nil ?_
      exact ⟨i + 1, rest, rfl, fin (by omega), rfl, _, _, _, rfl⟩
  · rintro δ' M' ⟨k, rest, hr, hs, rfl, u, v, w, rfl⟩
    refine sxs_one ?_
    refine sx_ret ?_
    refine ex_non ?_
    have e : rest = [] := by
      cases rest with
      | nil => rfl
      | cons y rest' => cases hr
    subst e
    rw [← hs] at q
    exact rt_of q
def arcs (ms : List Nat) : List (Nat × Nat) := laid 0 (widths ms)
def dialD (g : Gb) (ms : List Nat) : D := .ins (ga g "Dial") ["hands", "size", "arcs"] [hndD g ms, natD (lcmL ms), .tup ((arcs ms).map pairD)]
def sp_Dial (g : Gb) : DSp := fun ds M Q E => ∃ p ms, ds = [.ref p, hndD g ms] ∧ MsOk ms ∧ M p = some (.ins (ga g "Dial") [] []) ∧ (TellOk ms → Q .non (mup M p (.ins (ga g "Dial") ["hands", "size", "arcs"] [hndD g ms, natD (lcmL ms), .tup ((arcs ms).map pairD)]))) ∧
  (¬ TellOk ms → E (ga g "NoTelling") ["top", "bottom"] [natD ((widths ms).sum / Nat.gcd (widths ms).sum (lcmL ms)), natD (lcmL ms / Nat.gcd (widths ms).sum (lcmL ms))] M)
theorem ok_Dial (T : Tb g) : Kc g "Dial" (ga g "Dial") 6 ["self", "hands"] (sp_Dial g) := by
  refine T.k_Dial___init__ fun f fd F => fn_def (N := ["self", "hands", "size", "many"]) F ⟨rfl, rfl, rfl, by decide +kernel, rfl, by decide +kernel, by decide +kernel⟩ (by rintro _ _ _ _ ⟨_, _, rfl, _⟩; rfl) ?_
  rintro _ M Qd Ed cd ⟨p, ms, rfl, hm, hM, q, qE⟩
  have hlcm := hm.lcm
  refine sxs_cons ?_
  refine sx_expr ?_
  refine ex_call (ok_need_telling T) (Nat.le_of_ble_eq_true rfl) rfl ?_
  refine ax1 ?_
  refine ex_name (i := 1) rfl rfl rfl ?_
  refine ⟨ms, rfl, hm, fun ht => ?_, fun hn => ⟨M, MSub.refl M, qE hn⟩⟩
  refine sxs_cons ?_
  refine sx_set (i := 2) rfl rfl ?_
  refine ex_int ?_
  refine sxs_cons ?_
  refine sx_for ?_
  refine ix_tupl ?_
  refine ex_fld T.cls_Hands T.no_Hands_marks ?_
  refine ex_name (i := 1) rfl rfl rfl ?_
  refine ⟨_, _, _, ⟨rfl, rfl, rfl⟩, rfl, ?_⟩
  refine ⟨_, rfl, ?_⟩
  refine for_walk (xs := ms) (fun r δ' M' => ∃ b v, 0 < b ∧ (∀ m ∈ r, 1 ≤ m ∧ m ≤ 60) ∧ r.foldl Nat.lcm b = lcmL ms ∧ M' = M ∧ δ' = [some (.ref p), some (hndD g ms), some (natD b), v]) ⟨1, _, by decide, hm.each, rfl, rfl, rfl⟩ (fun _ _ _ _ => trivial) ?_ ?_
  · rintro m r δ' M' ⟨b, v, hb, hr, hl, rfl, rfl⟩
    have hm1 := hr m List.mem_cons_self
    have hb2 : b ≤ lcmL ms := Nat.le_of_dvd hm.pos (by rw [← hl]; exact lcm_fold_dvd)
    refine gx_name (i := 3) rfl rfl ?_
    refine sxs_one ?_
    refine sx_set (i := 2) rfl rfl ?_
    refine ex_call (ok_common_multiple T) (Nat.le_of_ble_eq_true rfl) rfl ?_
    refine ax2 ?_
    refine ex_name (i := 2) rfl rfl rfl ?_
    refine ex_name (i := 3) rfl rfl rfl ?_
    refine ⟨b, m, rfl, hb, by omega, by omega, by omega, ?_⟩
    exact ⟨Nat.lcm b m, _, Nat.lcm_pos hb (by omega), fun x hx => hr x (List.mem_cons_of_mem _ hx), hl, rfl, rfl⟩
  · rintro δ' M' ⟨b, v, hb, _, hl, rfl, rfl⟩
    obtain rfl : b = lcmL ms := hl
    refine sxs_cons ?_
    refine sx_if ?_
    refine tx_gt ?_
    refine ex_name (i := 2) rfl rfl rfl ?_
    refine T.x_MOST_SIZE rfl ?_
    refine v_gt_nat (n := 1000000000) ?_
    refine v_bl ?_
    refine cnd_pf (by omega) ?_
    refine sxs_nil ?_
    refine sxs_cons ?_
    refine sx_fld T.cls_Dial T.no_Dial_hands ?_
    refine ex_name (i := 1) rfl rfl rfl ?_
    refine ex_name (i := 0) rfl rfl rfl ?_
    refine ⟨_, _, _, rfl, hM, by decide, ?_⟩
    refine sxs_cons ?_
    refine sx_fld T.cls_Dial T.no_Dial_size ?_
    refine ex_name (i := 2) rfl rfl rfl ?_
    refine ex_name (i := 0) rfl rfl rfl ?_
    refine ⟨_, _, _, rfl, mup_same, by decide, ?_⟩
    refine sxs_one ?_
    refine sx_fld T.cls_Dial T.no_Dial_arcs ?_
    refine ex_call (ok_laid_out T) (Nat.le_of_ble_eq_true rfl) rfl ?_
    refine ax1 ?_
    refine ex_lcP (own := [("many", 3)]) (by kernel_rfl) ?_
    refine ix_tupl ?_
    refine ex_fld T.cls_Hands T.no_Hands_marks ?_
    refine ex_name (i := 1) rfl rfl rfl ?_
    refine ⟨_, _, _, ⟨rfl, rfl, rfl⟩, rfl, ?_⟩
    refine ⟨_, rfl, ?_⟩
    refine pur_map (xs := ms) (f := natD) (h := fun m => natD (lcmL ms / m)) (by have := hm.hi; omega) (fun _ _ => trivial) (fun m hx M' hM' => ?_) ?_
    · have hm1 := hm.each m hx
      refine gw_name (i := 3) rfl rfl (by decide) ?_
      refine ⟨rfl, ?_⟩
      refine ex_fdiv ?_
      refine ex_name (i := 2) rfl rfl rfl ?_
      refine ex_name (i := 3) rfl rfl rfl ?_
      refine v_fdiv_nat (by omega) (by omega) ?_
      exact ⟨rfl, rfl⟩
    refine ⟨widths ms, ?_, by unfold widths; rw [List.length_map]; have := hm.hi; omega, ?_⟩
    · unfold widths natsD
      rw [List.map_map]
      rfl
    refine ex_name (i := 0) rfl rfl rfl ?_
    refine ⟨_, _, _, rfl, mup_same, by decide, ?_⟩
    refine nx_of ?_
    rw [mup_mup, mup_mup]
    exact q ht
/-- places and marks -/
def placeOf (ms last : List Nat) : Nat := ((last.zip ms).map fun z => z.1 * (lcmL ms / z.2)).sum % lcmL ms
theorem getD_at {α : Type} {l : List α} {i : Nat} {x : α} (h : i < l.length) : l[i]? = some (l.getD i x) := by
  rw [List.getD_eq_getElem?_getD, List.getElem?_eq_getElem h]
  rfl
theorem natsD_at {l : List Nat} {h : Nat} (hh : h < l.length) : atI (natsD l) (h : Int) = some (natD (l.getD h 0)) := by
  refine atI_nat ?_
  unfold natsD
  rw [List.getElem?_map, getD_at hh]
  rfl
def sp_place_of (g : Gb) : DSp := fun ds M Q _ => ∃ ms last, ds = [dialD g ms, .tup (natsD last)] ∧ MsOk ms ∧ last.length ≤ 100 ∧ Q (natD (placeOf ms last)) M
theorem ok_place_of (T : Tb g) : Kn g "place_of" 1 ["dial", "last"] (sp_place_of g) := by
  refine T.k_place_of fun f fd F => fn_def (N := ["dial", "last", "mark", "many"]) F ⟨rfl, rfl, rfl, by decide +kernel, rfl, by decide +kernel, by decide +kernel⟩ (by rintro _ _ _ _ ⟨_, _, rfl, _⟩; rfl) ?_
  rintro _ M Qd Ed cd ⟨ms, last, rfl, hm, hz, q⟩
  have hlcm := hm.lcm
  have hpos := hm.pos
  refine sxs_one ?_
  refine sx_ret ?_
  refine ex_mod ?_
  refine ex_sum rfl T.f_sum ?_
  refine ex_lcP (own := [("mark", 2), ("many", 3)]) (by kernel_rfl) ?_
  refine ix_zipT rfl T.f_zip ?_
  refine ex_name (i := 1) rfl rfl rfl ?_
  refine ex_fld T.cls_Hands T.no_Hands_marks ?_
  refine ex_fld T.cls_Dial T.no_Dial_hands ?_
  refine ex_name (i := 0) rfl rfl rfl ?_
  refine ⟨_, _, _, ⟨rfl, rfl, rfl⟩, rfl, ?_⟩
  refine ⟨_, _, _, ⟨rfl, rfl, rfl⟩, rfl, ?_⟩
  refine ⟨_, _, rfl, rfl, ?_⟩
  unfold natsD
  rw [zipD_map]
  refine pur_map (h := fun z => natD (z.1 * (lcmL ms / z.2))) (by rw [List.length_zip]; omega) (fun _ _ => trivial) (fun z hx M' hM' => ?_) ?_
  · have hm1 := hm.each z.2 (List.of_mem_zip hx).2
    have hdv := Nat.div_le_self (lcmL ms) z.2
    refine gw_tup (n := 2) ⟨_, rfl, rfl, ?_⟩
    refine gws_cons ?_
    refine gw_name (i := 2) rfl rfl (by decide) ?_
    refine gws_cons ?_
    refine gw_name (i := 3) rfl rfl (by decide) ?_
    refine gws_nil ?_
    refine ⟨rfl, ?_⟩
    refine ex_mul ?_
    refine ex_name (i := 2) rfl rfl rfl ?_
    refine ex_fdiv ?_
    refine ex_fld T.cls_Dial T.no_Dial_size ?_
    refine ex_name (i := 0) rfl rfl rfl ?_
    refine ⟨_, _, _, ⟨rfl, rfl, rfl⟩, rfl, ?_⟩
    refine ex_name (i := 3) rfl rfl rfl ?_
    refine v_fdiv_nat (by omega) (by omega) ?_
    refine v_mul_nat (.inr (by omega)) ?_
    exact ⟨rfl, rfl⟩
  refine ⟨((last.zip ms).map fun z => z.1 * (lcmL ms / z.2)).map fun n : Nat => (n : Int), ?_, ?_⟩
  · show _ = _
    rw [← natsD_ints]
    unfold natsD
    rw [List.map_map]
    rfl
  rw [sum_nats]
  refine ex_fld T.cls_Dial T.no_Dial_size ?_
  refine ex_name (i := 0) rfl rfl rfl ?_
  refine ⟨_, _, _, ⟨rfl, rfl, rfl⟩, rfl, ?_⟩
  refine v_mod_nat hpos ?_
  exact rt_of q
def turnedI (ms last : List Nat) (h : Nat) : Int :=
  -((((placeOf ms last : Int) - (last.getD h 0 * (lcmL ms / ms.getD h 0) : Nat)) % (lcmL ms : Int) - (((arcs ms).getD h (0, 0)).1 : Int)) / ((lcmL ms / ms.getD h 0 : Nat) : Int)) % (ms.getD h 0 : Int)
def turned (ms last : List Nat) (h : Nat) : Nat := (turnedI ms last h).toNat
theorem turned_int {ms last : List Nat} {h : Nat} (hm : 0 < ms.getD h 0) : ((turned ms last h : Nat) : Int) = turnedI ms last h := by
  unfold turned
  rw [Int.toNat_of_nonneg]
  unfold turnedI
  exact Int.emod_nonneg _ (by omega)
theorem MsOk.at {ms : List Nat} {h : Nat} (hm : MsOk ms) (hh : h < ms.length) : 1 ≤ ms.getD h 0 ∧ ms.getD h 0 ≤ 60 := hm.each _ (List.mem_of_getElem? (getD_at hh))
theorem MsOk.width {ms : List Nat} {h : Nat} (hm : MsOk ms) (hh : h < ms.length) : 0 < lcmL ms / ms.getD h 0 ∧ lcmL ms / ms.getD h 0 ≤ 1000000000 := by
  have h1 := hm.at hh
  have h2 : ms.getD h 0 ∣ lcmL ms := lcm_dvd (List.mem_of_getElem? (getD_at hh))
  exact ⟨Nat.div_pos (Nat.le_of_dvd hm.pos h2) (by omega), Nat.le_trans (Nat.div_le_self _ _) hm.lcm⟩
def sp_turned_mark (g : Gb) : DSp := fun ds M Q _ => ∃ ms last h, ds = [dialD g ms, .tup (natsD last), natD h] ∧ MsOk ms ∧ last.length = ms.length ∧ h < ms.length ∧ Q (natD (turned ms last h)) M
theorem ok_turned_mark (T : Tb g) : Kn g "turned_mark" 2 ["dial", "last", "hand"] (sp_turned_mark g) := by
  refine T.k_turned_mark fun f fd F => fn_def (N := ["dial", "last", "hand", "width", "rest", "low"]) F ⟨rfl, rfl, rfl, by decide +kernel, rfl, by decide +kernel, by decide +kernel⟩ (by rintro _ _ _ _ ⟨_, _, _, rfl, _⟩; rfl) ?_
  rintro _ M Qd Ed cd ⟨ms, last, h, rfl, hm, hlen, hh, q⟩
  have hlcm := hm.lcm
  have hpos := hm.pos
  have hmh := hm.at hh
  have hw := hm.width hh
  have hhi := hm.hi
  refine sxs_cons ?_
  refine sx_set (i := 3) rfl rfl ?_
  refine ex_fdiv ?_
  refine ex_fld T.cls_Dial T.no_Dial_size ?_
  refine ex_name (i := 0) rfl rfl rfl ?_
  refine ⟨_, _, _, ⟨rfl, rfl, rfl⟩, rfl, ?_⟩
  refine ex_ixa ?_
  refine ex_fld T.cls_Hands T.no_Hands_marks ?_
  refine ex_fld T.cls_Dial T.no_Dial_hands ?_
  refine ex_name (i := 0) rfl rfl rfl ?_
  refine ⟨_, _, _, ⟨rfl, rfl, rfl⟩, rfl, ?_⟩
  refine ⟨_, _, _, ⟨rfl, rfl, rfl⟩, rfl, ?_⟩
  refine ex_name (i := 2) rfl rfl rfl ?_
  refine v_ix_tup (natsD_at hh) ?_
  refine v_fdiv_nat (by omega) (by omega) ?_
  refine sxs_cons ?_
  refine sx_set (i := 4) rfl rfl ?_
  refine ex_mod ?_
  refine ex_sub ?_
  refine ex_call (ok_place_of T) (Nat.le_of_ble_eq_true rfl) rfl ?_
  refine ax2 ?_
  refine ex_name (i := 0) rfl rfl rfl ?_
  refine ex_name (i := 1) rfl rfl rfl ?_
  refine ⟨ms, last, rfl, hm, by omega, ?_⟩
  refine ex_mul ?_
  refine ex_ixa ?_
  refine ex_name (i := 1) rfl rfl rfl ?_
  refine ex_name (i := 2) rfl rfl rfl ?_
  refine v_ix_tup (natsD_at (by omega)) ?_
  refine ex_name (i := 3) rfl rfl rfl ?_
  refine v_mul_nat (.inr (by omega)) ?_
  refine v_sub_int ?_
  refine ex_fld T.cls_Dial T.no_Dial_size ?_
  refine ex_name (i := 0) rfl rfl rfl ?_
  refine ⟨_, _, _, ⟨rfl, rfl, rfl⟩, rfl, ?_⟩
  refine v_mod_int (by omega) ?_
  refine sxs_cons ?_
  refine sx_set (i := 5) rfl rfl ?_
  refine ex_ixa ?_
  refine ex_ixa ?_
  refine ex_fld T.cls_Dial T.no_Dial_arcs ?_
  refine ex_name (i := 0) rfl rfl rfl ?_
  refine ⟨_, _, _, ⟨rfl, rfl, rfl⟩, rfl, ?_⟩
  refine ex_name (i := 2) rfl rfl rfl ?_
  refine v_ix_tup (d := pairD ((arcs ms).getD h (0, 0))) (atI_nat ?_) ?_
  · rw [List.getElem?_map, getD_at (x := ((0 : Nat), (0 : Nat))) (by unfold arcs widths; rw [laid_len, List.length_map]; exact hh)]
    rfl
  refine ex_int ?_
  refine v_ix_tup (d := natD ((arcs ms).getD h (0, 0)).1) rfl ?_
  refine sxs_one ?_
  refine sx_ret ?_
  refine ex_mod ?_
  refine ex_neg ?_
  refine ex_fdiv ?_
  refine ex_sub ?_
  refine ex_name (i := 4) rfl rfl rfl ?_
  refine ex_name (i := 5) rfl rfl rfl ?_
  refine v_sub_int ?_
  refine ex_name (i := 3) rfl rfl rfl ?_
  refine v_fdiv_int (by omega) (by omega) ?_
  refine v_neg_int ?_
  refine ex_ixa ?_
  refine ex_fld T.cls_Hands T.no_Hands_marks ?_
  refine ex_fld T.cls_Dial T.no_Dial_hands ?_
  refine ex_name (i := 0) rfl rfl rfl ?_
  refine ⟨_, _, _, ⟨rfl, rfl, rfl⟩, rfl, ?_⟩
  refine ⟨_, _, _, ⟨rfl, rfl, rfl⟩, rfl, ?_⟩
  refine ex_name (i := 2) rfl rfl rfl ?_
  refine v_ix_tup (natsD_at hh) ?_
  refine v_mod_int (by omega) ?_
  refine rt_of ?_
  unfold natD at q
  rw [turned_int (by omega)] at q
  exact q
def sp_acted (g : Gb) : DSp := fun ds M Q _ => ∃ ms last h, ds = [dialD g ms, .tup (natsD last), natD h] ∧ MsOk ms ∧ last.length = ms.length ∧ h < ms.length ∧ Q (.tup (natsD (last.set h (turned ms last h)))) M
theorem ok_acted (T : Tb g) : Kn g "acted" 3 ["dial", "last", "hand"] (sp_acted g) := by
  refine T.k_acted fun f fd F => fn_def (N := ["dial", "last", "hand"]) F ⟨rfl, rfl, rfl, by decide +kernel, rfl, by decide +kernel, by decide +kernel⟩ (by rintro _ _ _ _ ⟨_, _, _, rfl, _⟩; rfl) ?_
  rintro _ M Qd Ed cd ⟨ms, last, h, rfl, hm, hlen, hh, q⟩
  have hhi := hm.hi
  have hz : (natsD last).length = last.length := natsD_len _
  refine sxs_one ?_
  refine sx_ret ?_
  refine ex_add ?_
  refine ex_add ?_
  refine ex_slice ?_
  refine ex_name (i := 1) rfl rfl rfl ?_
  refine v_o_none ?_
  refine v_o_some ?_
  refine ex_name (i := 2) rfl rfl rfl ?_
  refine ⟨_, rfl, ?_⟩
  refine v_sl_tup ?_
  rw [cut_take (by omega)]
  refine ex_tup ?_
  refine ax1 ?_
  refine ex_call (ok_turned_mark T) (Nat.le_of_ble_eq_true rfl) rfl ?_
  refine ax3 ?_
  refine ex_name (i := 0) rfl rfl rfl ?_
  refine ex_name (i := 1) rfl rfl rfl ?_
  refine ex_name (i := 2) rfl rfl rfl ?_
  refine ⟨ms, last, h, rfl, hm, hlen, hh, ?_⟩
  refine ⟨by show 1 ≤ sizeLine; decide, ?_⟩
  refine v_add_tup (Nat.le_of_lt (small1000 (by rw [List.length_take]; simp; omega))) ?_
  refine ex_slice ?_
  refine ex_name (i := 1) rfl rfl rfl ?_
  refine v_o_some ?_
  refine ex_add ?_
  refine ex_name (i := 2) rfl rfl rfl ?_
  refine ex_int ?_
  refine v_add_nat (n := 1) ?_
  refine ⟨_, rfl, ?_⟩
  refine v_o_none ?_
  refine v_sl_tup ?_
  rw [cut_drop (by omega)]
  refine v_add_tup (Nat.le_of_lt (small1000 (by simp; omega))) ?_
  refine rt_of ?_
  have e : (natsD last).take h ++ [natD (turned ms last h)] ++ (natsD last).drop (h + 1) = natsD (last.set h (turned ms last h)) := by
    unfold natsD
    rw [List.map_set, List.set_eq_take_append_cons_drop, if_pos (by rw [List.length_map]; omega)]
    simp
  rw [e]
  exact q
end DL

set_option Elab.async false
set_option linter.all false
set_option maxRecDepth 100000
set_option maxHeartbeats 1000000
/-! # The program's defs: reading, store (1) -/
namespace DL
open PySem PySem.Spec PyProof.Rows L2
open Evl (Ex)
/-! ### a comprehension's list that may change later -/
section
variable {g : Gb} {c : Cz} {δ : Sl} {M : Mem} {O : Od} {pos : Pos} {tg iter elt : Expr} {ifs : List Expr} {scope : Scope} {own : List (Str × Nat)}
theorem LcD.imp {vs : List Nat} {Q Q' : D → Mem → Prop} {ds : List D} {stay : Mem → Prop} (h : LcD g c δ tg elt ifs scope vs Q ds stay M) (k : ∀ d M, Q d M → Q' d M) : LcD g c δ tg elt ifs scope vs Q' ds stay M := fun Dl hD => by
  obtain ⟨Pv, p0, p1, p2, p3⟩ := h Dl hD
  exact ⟨Pv, p0, p1, p2, fun acc M' p => k _ _ (p3 acc M' p)⟩
theorem IX.imp {Q Q' : List D → (Mem → Prop) → Mem → Prop} (h : IX g c tg iter δ M Q) (k : ∀ ds stay M, Q ds stay M → Q' ds stay M) : IX g c tg iter δ M Q' := fun X F0 G F σ H eF st sl pins s I => thn (h X F0 G F σ H eF st sl pins s I) fun v s1 h1 => thn h1 fun itv s2 ⟨it, fp, tn, J, H1, ev, I1, T, t0, f0, F1, M1, ds, stay, e1, st1, wk, sty, q⟩ =>
  ⟨it, fp, tn, J, H1, ev, I1, T, t0, f0, F1, M1, ds, stay, e1, st1, wk, sty, k _ _ _ q⟩
/-- told of the new list -/
def NewQ (Q : D → Mem → Prop) : D → Mem → Prop := fun d M1 => ∀ q, M1 q = none → ∃ ds, d = .lst ds ∧ Q (.ref q) (mup M1 q (.lst ds))
theorem mup_mdel {q : Addr} {m : MO} (h : M q = some m) : mup (mdel M q) q m = M := by
  funext b
  unfold mup mdel
  by_cases hb : b = q
  · rw [if_pos hb, hb, h]
  · rw [if_neg hb, if_neg hb]
theorem frz_new {Q : D → Mem → Prop} {d : D} (h : FrzD M (NewQ Q) d) : Q d M := by
  obtain ⟨q, rfl, ⟨ds, hm, k⟩ | ⟨C, ns, ds, hm, k⟩⟩ := h
  · obtain ⟨ds', e, k⟩ := k q (if_pos rfl)
    injection e with e
    rw [← e, mup_mdel hm] at k
    exact k
  · obtain ⟨ds', e, _⟩ := k q (if_pos rfl)
    cases e
theorem sx_setLcM {i : Nat} {y : Str} {py spos : Pos} (hb : blkC c.N c.sc scope own = true) (hN : c.N[i]? = some y) (hy : c.sc.names.lookup y = some .local) (hl : (py.line == pos.line) = true) (ha : (scope.names.any fun (n, k) => n == y && (k == .local || k == .cell)) = false)
    (h : IX g c tg iter δ M (PurD g c δ tg elt ifs scope (own.map (·.2)) (NewQ fun d M1 => O.nx (δ.set i (some d)) M1))) (hs : ∀ env x, foldedSetIterable iter env x = pure x := by intro _ _; rfl) :
    SX g c (.Assign [.Name y py] (.ListComp elt [⟨tg, iter, ifs, 0⟩] scope pos) spos) δ M O :=
  sx_setLc (own := own) hb hN hy hl ha (IX.imp h fun _ _ _ q => LcD.imp (pur_lc q) fun _ _ k => .inl (frz_new k)) hs
end
variable {g : Gb}
abbrev Ent := Nat × Nat × Nat × Nat
def entD (e : Ent) : D := .tup [natD e.1, natD e.2.1, natD e.2.2.1, natD e.2.2.2]
def logD (l : List Ent) : D := .tup (l.map entD)
def logsD (ls : List (List Ent)) : D := .tup (ls.map logD)
def mlogsD (ls : List (List Nat)) : D := .tup (ls.map fun l => .tup (natsD l))
def marksAt (mls : List (List Nat)) (cs ah : List Nat) : List Nat := (mls.zip (cs.zip ah)).map fun z => if z.2.1 > 0 then z.1.getD (z.2.1 - 1) 0 else z.2.2
def sp_marks_at : DSp := fun ds M Q _ => ∃ mls cs ah p, ds = [mlogsD mls, .ref p, .tup (natsD ah)] ∧ M p = some (.lst (natsD cs)) ∧ mls.length = cs.length ∧ mls.length = ah.length ∧ mls.length ≤ 100 ∧ (∀ z ∈ mls.zip cs, z.2 ≤ z.1.length) ∧ Q (.tup (natsD (marksAt mls cs ah))) M
theorem ok_marks_at (T : Tb g) : Kn g "marks_at" 1 ["logs", "counts", "ahead"] sp_marks_at := by
  refine T.k_marks_at fun f fd F => fn_def (N := ["logs", "counts", "ahead", "found", "log", "many", "first"]) F ⟨rfl, rfl, rfl, by decide +kernel, rfl, by decide +kernel, by decide +kernel⟩ (by rintro _ _ _ _ ⟨_, _, _, _, rfl, _⟩; rfl) ?_
  rintro _ M Qd Ed cd ⟨mls, cs, ah, p, rfl, hp, hl1, hl2, hz, hle, q⟩
  refine sxs_cons ?_
  refine sx_set (i := 3) rfl rfl ?_
  refine ex_lstN ?_
  refine ax_nil ?_
  refine ⟨by show 0 ≤ sizeLine; decide, fun p2 hp2 => ?_⟩
  have np : p ≠ p2 := ne_none hp hp2
  refine sxs_cons ?_
  refine sx_for ?_
  refine ix_zip3 rfl T.f_zip ?_
  refine ex_name (i := 0) rfl rfl rfl ?_
  refine ex_name (i := 1) rfl rfl rfl ?_
  refine ex_name (i := 2) rfl rfl rfl ?_
  refine ⟨_, _, _, rfl, (mup_ne np).trans hp, rfl, by rw [List.length_map, natsD_len]; exact hl1, by rw [List.length_map, natsD_len]; exact hl2, ?_⟩
  unfold natsD
  rw [zip3D_map]
  have hle2 : ∀ z ∈ mls.zip (cs.zip ah), z.2.1 ≤ z.1.length := by
    intro z hz
    obtain ⟨i, hi⟩ := List.mem_iff_getElem?.mp hz
    rw [List.getElem?_zip_eq_some, List.getElem?_zip_eq_some] at hi
    exact hle (z.1, z.2.1) (List.mem_of_getElem? (i := i) (List.getElem?_zip_eq_some.mpr ⟨hi.1, hi.2.1⟩))
  refine for_walk (fun r δ' M' => ∃ acc u v w, acc ++ (r.map fun z : List Nat × Nat × Nat => if z.2.1 > 0 then z.1.getD (z.2.1 - 1) 0 else z.2.2) = marksAt mls cs ah ∧ acc.length + r.length ≤ 100 ∧ (∀ z ∈ r, z.2.1 ≤ z.1.length) ∧ M' = mup M p2 (.lst (natsD acc)) ∧ δ' = [some (mlogsD mls), some (.ref p), some (.tup (natsD ah)), some (.ref p2), u, v, w])
    ⟨[], _, _, _, rfl, by simp [List.length_zip]; omega, hle2, rfl, rfl⟩ ?_ ?_ ?_
  · rintro r δ' M' ⟨acc, u, v, w, _, _, _, rfl, _⟩
    show mup M p2 _ p = mup M p2 _ p
    rw [mup_ne np, mup_ne np]
  · rintro ⟨l, m, a⟩ r δ' M' ⟨acc, u, v, w, ha, hal, hr, rfl, rfl⟩
    have hr1 := hr (l, m, a) List.mem_cons_self
    have hal' : acc.length < 100 := by rw [List.length_cons] at hal; omega
    refine gx_tup (n := 3) ⟨_, rfl, rfl, ?_⟩
    refine gxs_cons ?_
    refine gx_name (i := 4) rfl rfl ?_
    refine gxs_cons ?_
    refine gx_name (i := 5) rfl rfl ?_
    refine gxs_cons ?_
    refine gx_name (i := 6) rfl rfl ?_
    refine gxs_nil ?_
    refine sxs_one ?_
    refine sx_expr ?_
    refine ex_append ?_
    refine ex_name (i := 3) rfl rfl rfl ?_
    refine ⟨_, _, rfl, mup_same, ?_⟩
    have fin : ∀ x : Nat, x = (if m > 0 then l.getD (m - 1) 0 else a) → ∃ ds', mup M p2 (.lst (natsD acc)) p2 = some (.lst ds') ∧ ds'.length < sizeLine ∧ ∃ acc' u v w, acc' ++ (r.map fun z : List Nat × Nat × Nat => if z.2.1 > 0 then z.1.getD (z.2.1 - 1) 0 else z.2.2) = marksAt mls cs ah ∧ acc'.length + r.length ≤ 100 ∧ (∀ z ∈ r, z.2.1 ≤ z.1.length) ∧ mup (mup M p2 (.lst (natsD acc))) p2 (.lst (ds' ++ [natD x])) = mup M p2 (.lst (natsD acc')) ∧
        ([some (mlogsD mls), some (.ref p), some (.tup (natsD ah)), some (.ref p2), some (.tup (natsD l)), some (natD m), some (natD a)] : Sl) = [some (mlogsD mls), some (.ref p), some (.tup (natsD ah)), some (.ref p2), u, v, w] := fun x hx => by
      refine ⟨_, mup_same, by rw [natsD_len]; exact small1000 (by omega), acc ++ [x], _, _, _, ?_, ?_, fun z hz => hr z (List.mem_cons_of_mem _ hz), ?_, rfl⟩
      · rw [List.append_assoc, ← ha, hx]
        rfl
      · rw [List.length_cons] at hal
        rw [List.length_append, List.length_singleton]
        omega
      · rw [mup_mup]
        unfold natsD
        rw [List.map_append]
        rfl
    refine ex_if ?_
    refine tx_gt ?_
    refine ex_name (i := 5) rfl rfl rfl ?_
    refine ex_int ?_
    refine v_gt_nat (n := 0) ?_
    refine v_bl ?_
    refine cnd_p (fun hb => ?_) fun hb => ?_
    · have hb : 0 < m := hb
      have hr1 : m ≤ l.length := hr1
      refine ex_ixa ?_
      refine ex_name (i := 4) rfl rfl rfl ?_
      refine ex_sub ?_
      refine ex_name (i := 5) rfl rfl rfl ?_
      refine ex_int ?_
      refine v_sub_nat (n := 1) (by omega) ?_
      refine v_ix_tup (natsD_at (by omega)) ?_
      exact fin _ (by rw [if_pos hb])
    · have hb : ¬ 0 < m := hb
      refine ex_name (i := 6) rfl rfl rfl ?_
      exact fin _ (by rw [if_neg hb])
  · rintro δ' M' ⟨acc, u, v, w, ha, _, _, rfl, rfl⟩
    have ha : acc = marksAt mls cs ah := by rw [← ha]; exact (List.append_nil _).symm
    refine sxs_one ?_
    refine sx_ret ?_
    refine ex_tupc rfl T.f_tuple ?_
    refine ex_name (i := 3) rfl rfl rfl ?_
    refine ⟨_, mup_same, ?_⟩
    rw [ha]
    exact rt_sub (MSub.new hp2) q
/-- the way back: rs the hands, the last first -/
def BackOk (ms : List Nat) (mls : List (List Nat)) (ah : List Nat) : List Nat → List Nat → Prop
  | cs, [] => cs.any (· != 0) = false
  | cs, h :: r => cs.any (· != 0) = true ∧ stretch 0 (arcs ms) (placeOf ms (marksAt mls cs ah)) = some h ∧ h < cs.length ∧ cs.getD h 0 ≠ 0 ∧ BackOk ms mls ah (cs.set h (cs.getD h 0 - 1)) r
def sp_struck_back (g : Gb) : DSp := fun ds M Q _ => ∃ ms mls ah rs, ds = [dialD g ms, mlogsD mls, .tup (natsD ah)] ∧ MsOk ms ∧ mls.length = ah.length ∧ mls.length ≤ 100 ∧ rs.length ≤ 1000 ∧ BackOk ms mls ah (mls.map (·.length)) rs ∧ Q (.tup (natsD rs.reverse)) M
theorem any_nats : ∀ cs : List Nat, (cs.map fun n : Nat => (n : Int)).any (· != 0) = cs.any (· != 0)
  | [] => rfl
  | n :: cs => by
    rw [List.map_cons, List.any_cons, List.any_cons, any_nats cs]
    congr 1
    by_cases h : n = 0
    · subst h
      rfl
    · have h1 : (n != 0) = true := by simpa using h
      have h2 : ((n : Int) != 0) = true := by simpa using h
      rw [h1, h2]
theorem marksAt_len {mls : List (List Nat)} {cs ah : List Nat} (h1 : mls.length = cs.length) (h2 : mls.length = ah.length) : (marksAt mls cs ah).length = mls.length := by
  unfold marksAt
  rw [List.length_map, List.length_zip, List.length_zip]
  omega
theorem le_set {mls : List (List Nat)} {cs : List Nat} {h : Nat} (hh : ∀ z ∈ mls.zip cs, z.2 ≤ z.1.length) : ∀ z ∈ mls.zip (cs.set h (cs.getD h 0 - 1)), z.2 ≤ z.1.length := by
  intro z hz
  obtain ⟨i, hi⟩ := List.mem_iff_getElem?.mp hz
  rw [List.getElem?_zip_eq_some] at hi
  obtain ⟨h1, h2⟩ := hi
  by_cases e : h = i
  · subst e
    have hlt : h < cs.length := by
      have := (List.getElem?_eq_some_iff.mp h2).1
      rw [List.length_set] at this
      exact this
    rw [List.getElem?_set_self hlt] at h2
    have k := hh (z.1, cs.getD h 0) (List.mem_of_getElem? (i := h) (List.getElem?_zip_eq_some.mpr ⟨h1, getD_at hlt⟩))
    have k2 := Option.some.inj h2
    have k : cs.getD h 0 ≤ z.1.length := k
    omega
  · rw [List.getElem?_set_ne e] at h2
    exact hh z (List.mem_of_getElem? (i := i) (List.getElem?_zip_eq_some.mpr ⟨h1, h2⟩))
theorem ok_struck_back (T : Tb g) : Kn g "struck_back" 2 ["dial", "logs", "ahead"] (sp_struck_back g) := by
  refine T.k_struck_back fun f fd F => fn_def (N := ["dial", "logs", "ahead", "counts", "log", "found", "hand"]) F ⟨rfl, rfl, rfl, by decide +kernel, rfl, by decide +kernel, by decide +kernel⟩ (by rintro _ _ _ _ ⟨_, _, _, _, rfl, _⟩; rfl) ?_
  rintro _ M Qd Ed cd ⟨ms, mls, ah, rs, rfl, hm, hl, hz, hrs, hB, q⟩
  refine sxs_cons ?_
  refine sx_setLcM (i := 3) (own := [("log", 4)]) (by kernel_rfl) rfl rfl rfl rfl ?_
  refine ix_tupl ?_
  refine ex_name (i := 1) rfl rfl rfl ?_
  refine ⟨_, rfl, ?_⟩
  refine pur_map (xs := mls) (f := fun l => .tup (natsD l)) (h := fun l => natD l.length) (by omega) (fun _ _ => trivial) (fun x hx M' hM' => ?_) ?_
  · refine gw_name (i := 4) rfl rfl (by decide) ?_
    refine ⟨rfl, ?_⟩
    refine ex_len rfl T.f_len ?_
    refine ex_name (i := 4) rfl rfl rfl ?_
    refine v_len_tup ?_
    exact ⟨by rw [natsD_len]; rfl, rfl⟩
  intro p hp
  refine ⟨_, rfl, ?_⟩
  have e0 : (mls.map fun l => natD l.length) = natsD (mls.map (·.length)) := by
    unfold natsD
    rw [List.map_map]
    rfl
  rw [e0]
  refine sxs_cons ?_
  refine sx_set (i := 5) rfl rfl ?_
  refine ex_lstN ?_
  refine ax_nil ?_
  refine ⟨by show 0 ≤ sizeLine; decide, fun p2 hp2 => ?_⟩
  obtain ⟨n21, hp2⟩ := none_mup hp2
  have hle0 : ∀ z ∈ mls.zip (mls.map (·.length)), z.2 ≤ z.1.length := by
    intro z hz
    obtain ⟨i, hi⟩ := List.mem_iff_getElem?.mp hz
    rw [List.getElem?_zip_eq_some, List.getElem?_map] at hi
    obtain ⟨h1, h2⟩ := hi
    rw [h1] at h2
    have k2 := Option.some.inj h2
    have k2 : z.1.length = z.2 := k2
    omega
  refine sxs_cons ?_
  refine sx_while (fun m δ' M' => ∃ cs acc r u v, m = r.length ∧ acc ++ r = rs ∧ BackOk ms mls ah cs r ∧ cs.length = mls.length ∧ (∀ z ∈ mls.zip cs, z.2 ≤ z.1.length) ∧ M' = mup (mup M p (.lst (natsD cs))) p2 (.lst (natsD acc)) ∧ δ' = [some (dialD g ms), some (mlogsD mls), some (.tup (natsD ah)), some (.ref p), u, some (.ref p2), v]) rs.length
    ⟨_, [], rs, _, _, rfl, rfl, hB, by rw [List.length_map], hle0, rfl, rfl⟩ ?_
  rintro m δ' M' ⟨cs, acc, r, u, v, rfl, hacc, hB, hcl, hle, rfl, rfl⟩
  have n12 : p ≠ p2 := fun z => n21 z.symm
  have hmp : mup (mup M p (.lst (natsD cs))) p2 (.lst (natsD acc)) p = some (.lst (natsD cs)) := (mup_ne n12).trans mup_same
  refine tx_val ?_
  refine ex_any rfl T.f_any ?_
  refine ex_name (i := 3) rfl rfl rfl ?_
  refine .inr ⟨cs.map fun n : Nat => (n : Int), by rw [← natsD_ints]; exact hmp, ?_⟩
  refine v_bl ?_
  rw [any_nats]
  cases r with
  | nil =>
    have hB : cs.any (· != 0) = false := hB
    refine cnd_f hB ?_
    refine sxs_one ?_
    refine sx_ret ?_
    refine ex_tupRev rfl T.f_tuple rfl T.f_reversed ?_
    refine ex_name (i := 5) rfl rfl rfl ?_
    refine ⟨_, mup_same, ?_⟩
    have e : acc = rs := by rw [← hacc, List.append_nil]
    have e2 : (natsD acc).reverse = natsD rs.reverse := by
      rw [e]
      unfold natsD
      rw [List.map_reverse]
    rw [e2]
    exact rt_sub ((MSub.new hp).trans (MSub.new (by rw [mup_ne n21]; exact hp2))) q
  | cons h r =>
    obtain ⟨h1, h2, h3, h4, h5⟩ := hB
    refine cnd_t h1 ?_
    refine sxs_cons ?_
    refine sx_set (i := 6) rfl rfl ?_
    refine ex_call (ok_stretch_with T) (Nat.le_of_ble_eq_true rfl) rfl ?_
    refine ax2 ?_
    refine ex_fld T.cls_Dial T.no_Dial_arcs ?_
    refine ex_name (i := 0) rfl rfl rfl ?_
    refine ⟨_, _, _, ⟨rfl, rfl, rfl⟩, rfl, ?_⟩
    refine ex_call (ok_place_of T) (Nat.le_of_ble_eq_true rfl) rfl ?_
    refine ax2 ?_
    refine ex_name (i := 0) rfl rfl rfl ?_
    refine ex_call (ok_marks_at T) (Nat.le_of_ble_eq_true rfl) rfl ?_
    refine ax3 ?_
    refine ex_name (i := 1) rfl rfl rfl ?_
    refine ex_name (i := 3) rfl rfl rfl ?_
    refine ex_name (i := 2) rfl rfl rfl ?_
    refine ⟨mls, cs, ah, p, rfl, hmp, hcl.symm, hl, hz, hle, ?_⟩
    refine ⟨ms, _, rfl, hm, by rw [marksAt_len hcl.symm hl]; exact hz, ?_⟩
    refine ⟨_, _, rfl, ?_⟩
    rw [h2]
    refine sxs_cons ?_
    refine sx_if ?_
    refine tx_w ?_
    refine wt_or ?_
    refine tx_isN ?_
    refine ex_name (i := 6) rfl rfl rfl ?_
    refine cnd_f rfl ?_
    refine wt_or1 ?_
    refine tx_eq ?_
    refine ex_ixa ?_
    refine ex_name (i := 3) rfl rfl rfl ?_
    refine ex_name (i := 6) rfl rfl rfl ?_
    refine v_ix_ref hmp (natsD_at h3) ?_
    refine ex_int ?_
    refine v_eq_nat (n := 0) ?_
    refine v_bl ?_
    refine cnd_pf h4 ?_
    refine sxs_nil ?_
    refine sxs_cons ?_
    refine sx_augS (f := fun x y => x - y) (fun _ => ip_sub) ?_
    refine ex_name (i := 3) rfl rfl rfl ?_
    refine ex_name (i := 6) rfl rfl rfl ?_
    refine ⟨p, natsD cs, (h : Int), (cs.getD h 0 : Int), rfl, rfl, hmp, Int.natCast_nonneg _, ?_, ?_⟩
    · rw [Int.toNat_natCast]
      unfold natsD
      rw [List.getElem?_map, getD_at h3]
      rfl
    refine ex_int ?_
    refine ⟨1, rfl, hmp, ?_⟩
    have e1 : (natsD cs).set (h : Int).toNat (.int ((cs.getD h 0 : Int) - 1)) = natsD (cs.set h (cs.getD h 0 - 1)) := by
      unfold natsD
      rw [Int.toNat_natCast, List.map_set]
      congr 1
      show D.int _ = D.int _
      congr 1
      omega
    rw [e1]
    have e2 : mup (mup (mup M p (.lst (natsD cs))) p2 (.lst (natsD acc))) p (.lst (natsD (cs.set h (cs.getD h 0 - 1)))) = mup (mup M p (.lst (natsD (cs.set h (cs.getD h 0 - 1))))) p2 (.lst (natsD acc)) := by
      funext b
      unfold mup
      by_cases hb : b = p
      · subst hb
        rw [if_pos rfl, if_neg n12, if_pos rfl]
      · rw [if_neg hb, if_neg hb, if_neg hb]
    rw [e2]
    refine sxs_one ?_
    refine sx_expr ?_
    refine ex_append ?_
    refine ex_name (i := 5) rfl rfl rfl ?_
    refine ⟨_, _, rfl, mup_same, ?_⟩
    refine ex_name (i := 6) rfl rfl rfl ?_
    have hal : acc.length < 1000 := by
      have := congrArg List.length hacc
      rw [List.length_append, List.length_cons] at this
      omega
    refine ⟨_, mup_same, by rw [natsD_len]; exact small1000 (by omega), ?_⟩
    refine ⟨r.length, by rw [List.length_cons]; omega, cs.set h (cs.getD h 0 - 1), acc ++ [h], r, _, _, rfl, by rw [← hacc, List.append_assoc]; rfl, h5, by rw [List.length_set]; exact hcl, le_set hle, ?_, rfl⟩
    rw [mup_mup]
    unfold natsD
    rw [List.map_append]
    rfl
end DL

set_option Elab.async false
set_option linter.all false
set_option maxRecDepth 100000
set_option maxHeartbeats 1000000
/-! # The program's defs: store (2) -/
namespace DL
open PySem PySem.Spec PyProof.Rows L2
open Evl (Ex)
variable {g : Gb}
structure CellsOk (cs : List Nat) : Prop where
  lo : 1 ≤ cs.length
  hi : cs.length ≤ 20
  each : ∀ n ∈ cs, n < 1000000000
def sp_check_cells : DSp := fun ds M Q _ => ∃ d cs, ds = [d] ∧ (d = .lst (natsD cs) ∨ d = .tup (natsD cs)) ∧ CellsOk cs ∧ Q (.tup (natsD cs)) M
theorem all_true {α : Type} {l : List α} {p : α → Bool} (h : ∀ x ∈ l, p x = true) : (l.map p).all id = true := by
  rw [List.all_map, List.all_eq_true]
  exact h
theorem ok_check_cells (T : Tb g) : Kn g "check_cells" 4 ["value"] sp_check_cells := by
  refine T.k_check_cells fun f fd F => fn_def (N := ["value", "number"]) F ⟨rfl, rfl, rfl, by decide +kernel, rfl, by decide +kernel, by decide +kernel⟩ (by rintro _ _ _ _ ⟨_, _, rfl, _⟩; rfl) ?_
  rintro _ M Qd Ed cd ⟨d, cs, rfl, hd, hc, q⟩
  have h1 := hc.lo
  have h2 := hc.hi
  refine sxs_cons ?_
  refine sx_if ?_
  refine tx_w ?_
  refine wt_or ?_
  refine tx_not ?_
  refine tx_val ?_
  refine ex_call (ok_is_sequence T) (Nat.le_of_ble_eq_true rfl) rfl ?_
  refine ax1 ?_
  refine ex_name (i := 0) rfl rfl rfl ?_
  refine ⟨_, rfl, ?_, ?_⟩
  · rcases hd with rfl | rfl
    · exact ⟨"list", rfl, .inl rfl⟩
    · exact ⟨"tuple", rfl, .inr rfl⟩
  refine wt_or1 ?_
  refine tx_not ?_
  refine tx_ch (fun _ => op_le) (fun _ => op_le) ?_
  refine ex_int ?_
  refine ex_len rfl T.f_len ?_
  refine ex_name (i := 0) rfl rfl rfl ?_
  have hl : ∀ {Q : D → Mem → Prop}, Q (.int (cs.length : Int)) M → LenD d M Q := fun {Q} k => by
    rcases hd with rfl | rfl
    · refine v_len_lst ?_
      rw [natsD_len]
      exact k
    · refine v_len_tup ?_
      rw [natsD_len]
      exact k
  refine hl ?_
  refine v_ch (fun hcc => ?_) fun hcc => absurd hcc (by simp; omega)
  refine T.x_MOST_CELLS rfl ?_
  refine ⟨_, rfl, ?_⟩
  refine cnd_f (by simp; omega) ?_
  refine sxs_nil ?_
  refine sxs_cons ?_
  refine sx_if ?_
  refine tx_not ?_
  refine tx_val ?_
  refine ex_all rfl T.f_all ?_
  have fin : SXs g (bodyC ["value", "number"] (defScope (topS 42)) 3 Ed "check_cells" cd) [(defBody (topS 42)).getD 2 (.Pass ⟨0, 0, 0, 0⟩)] (startD ["value", "number"] [d]) M (bodyO Qd) := by
    refine sxs_one ?_
    refine sx_ret ?_
    refine ex_tupc rfl T.f_tuple ?_
    refine ex_name (i := 0) rfl rfl rfl ?_
    rcases hd with rfl | rfl
    · exact ⟨_, rfl, rt_of q⟩
    · exact ⟨_, rfl, rt_of q⟩
  rcases hd with rfl | rfl
  · refine ex_lcP (own := [("number", 1)]) (by kernel_rfl) ?_
    refine ix_lst ?_
    refine ex_name (i := 0) rfl rfl rfl ?_
    refine ⟨_, rfl, ?_⟩
    refine pur_map (xs := cs) (f := natD) (h := fun n => .bl (decide ((0 : Int) ≤ n) && decide ((n : Int) < 1000000000))) (by omega) (fun _ _ => trivial) (fun x hx M' hM' => ?_) ?_
    · refine gw_name (i := 1) rfl rfl (by decide) ?_
      refine ⟨rfl, ?_⟩
      refine ex_call (ok_is_below T) (Nat.le_of_ble_eq_true rfl) rfl ?_
      refine ax2 ?_
      refine ex_name (i := 1) rfl rfl rfl ?_
      refine T.x_MOST_WORTH rfl ?_
      refine ⟨_, _, rfl, ?_⟩
      exact ⟨rfl, rfl⟩
    refine ⟨cs.map fun n : Nat => (decide ((0 : Int) ≤ n) && decide ((n : Int) < 1000000000)), by show _ = _; rw [List.map_map]; rfl, ?_⟩
    rw [all_true fun n hn => by have := hc.each n hn; simp; omega]
    refine v_bl ?_
    refine cnd_f rfl ?_
    refine sxs_nil ?_
    exact fin
  · refine ex_lcP (own := [("number", 1)]) (by kernel_rfl) ?_
    refine ix_tupl ?_
    refine ex_name (i := 0) rfl rfl rfl ?_
    refine ⟨_, rfl, ?_⟩
    refine pur_map (xs := cs) (f := natD) (h := fun n => .bl (decide ((0 : Int) ≤ n) && decide ((n : Int) < 1000000000))) (by omega) (fun _ _ => trivial) (fun x hx M' hM' => ?_) ?_
    · refine gw_name (i := 1) rfl rfl (by decide) ?_
      refine ⟨rfl, ?_⟩
      refine ex_call (ok_is_below T) (Nat.le_of_ble_eq_true rfl) rfl ?_
      refine ax2 ?_
      refine ex_name (i := 1) rfl rfl rfl ?_
      refine T.x_MOST_WORTH rfl ?_
      refine ⟨_, _, rfl, ?_⟩
      exact ⟨rfl, rfl⟩
    refine ⟨cs.map fun n : Nat => (decide ((0 : Int) ≤ n) && decide ((n : Int) < 1000000000)), by show _ = _; rw [List.map_map]; rfl, ?_⟩
    rw [all_true fun n hn => by have := hc.each n hn; simp; omega]
    refine v_bl ?_
    refine cnd_f rfl ?_
    refine sxs_nil ?_
    exact fin
theorem natsD_set {l : List Nat} {i v : Nat} (h : i < l.length) : (natsD l).take i ++ [natD v] ++ (natsD l).drop (i + 1) = natsD (l.set i v) := by
  unfold natsD
  rw [List.map_set, List.set_eq_take_append_cons_drop, if_pos (by rw [List.length_map]; omega)]
  simp
def sp_with_number : DSp := fun ds M Q _ => ∃ cs i n, ds = [.tup (natsD cs), natD i, natD n] ∧ i < cs.length ∧ cs.length ≤ 100 ∧ Q (.tup (natsD (cs.set i n))) M
theorem ok_with_number (T : Tb g) : Kn g "with_number" 1 ["cells", "cell", "number"] sp_with_number := by
  refine T.k_with_number fun f fd F => fn_def (N := ["cells", "cell", "number"]) F ⟨rfl, rfl, rfl, by decide +kernel, rfl, by decide +kernel, by decide +kernel⟩ (by rintro _ _ _ _ ⟨_, _, _, rfl, _⟩; rfl) ?_
  rintro _ M Qd Ed cd ⟨cs, i, n, rfl, hi, hz, q⟩
  have hl := natsD_len cs
  refine sxs_one ?_
  refine sx_ret ?_
  refine ex_add ?_
  refine ex_add ?_
  refine ex_slice ?_
  refine ex_name (i := 0) rfl rfl rfl ?_
  refine v_o_none ?_
  refine v_o_some ?_
  refine ex_name (i := 1) rfl rfl rfl ?_
  refine ⟨_, rfl, ?_⟩
  refine v_sl_tup ?_
  rw [cut_take (by omega)]
  refine ex_tup ?_
  refine ax1 ?_
  refine ex_name (i := 2) rfl rfl rfl ?_
  refine ⟨by show 1 ≤ sizeLine; decide, ?_⟩
  refine v_add_tup (Nat.le_of_lt (small1000 (by rw [List.length_take]; simp; omega))) ?_
  refine ex_slice ?_
  refine ex_name (i := 0) rfl rfl rfl ?_
  refine v_o_some ?_
  refine ex_add ?_
  refine ex_name (i := 1) rfl rfl rfl ?_
  refine ex_int ?_
  refine v_add_nat (n := 1) ?_
  refine ⟨_, rfl, ?_⟩
  refine v_o_none ?_
  refine v_sl_tup ?_
  rw [cut_drop (by omega)]
  refine v_add_tup (Nat.le_of_lt (small1000 (by simp; omega))) ?_
  refine rt_of ?_
  rw [natsD_set hi]
  exact q
def marksOf (ls : List (List Ent)) : List (List Nat) := ls.map fun l => l.map (·.1)
def sp_marks_of : DSp := fun ds M Q _ => ∃ ls : List (List Ent), ds = [logsD ls] ∧ ls.length ≤ 100 ∧ (∀ l ∈ ls, l.length ≤ 1000) ∧ Q (mlogsD (marksOf ls)) M
theorem ok_marks_of (T : Tb g) : Kn g "marks_of" 1 ["logs"] sp_marks_of := by
  refine T.k_marks_of fun f fd F => fn_def (N := ["logs", "entry", "log"]) F ⟨rfl, rfl, rfl, by decide +kernel, rfl, by decide +kernel, by decide +kernel⟩ (by rintro _ _ _ _ ⟨_, rfl, _⟩; rfl) ?_
  rintro _ M Qd Ed cd ⟨ls, rfl, hz, hz2, q⟩
  refine sxs_one ?_
  refine sx_ret ?_
  refine ex_tupc rfl T.f_tuple ?_
  refine ex_lcP (own := [("log", 2)]) (by kernel_rfl) ?_
  refine ix_tupl ?_
  refine ex_name (i := 0) rfl rfl rfl ?_
  refine ⟨_, rfl, ?_⟩
  refine pur_map (xs := ls) (f := logD) (h := fun l => .tup (natsD (l.map (·.1)))) (by omega) (fun _ _ => trivial) (fun l hx M' hM' => ?_) ?_
  · refine gw_name (i := 2) rfl rfl (by decide) ?_
    refine ⟨rfl, ?_⟩
    refine ex_tupc rfl T.f_tuple ?_
    refine ex_lcP (own := [("entry", 1)]) (by kernel_rfl) ?_
    refine ix_tupl ?_
    refine ex_name (i := 2) rfl rfl rfl ?_
    refine ⟨_, rfl, ?_⟩
    refine pur_map (xs := l) (f := entD) (h := fun e => natD e.1) (by have := hz2 l hx; omega) (fun _ _ => trivial) (fun e hx2 M2 hM2 => ?_) ?_
    · refine gw_name (i := 1) rfl rfl (by decide) ?_
      refine ⟨rfl, ?_⟩
      refine ex_ixa ?_
      refine ex_name (i := 1) rfl rfl rfl ?_
      refine ex_int ?_
      refine v_ix_tup (d := natD e.1) rfl ?_
      exact ⟨rfl, rfl⟩
    refine ⟨_, rfl, ?_⟩
    refine ⟨?_, rfl⟩
    unfold natsD
    rw [List.map_map]
    rfl
  refine ⟨_, rfl, ?_⟩
  refine rt_of ?_
  have e : (.tup (ls.map fun l => .tup (natsD (l.map (·.1)))) : D) = mlogsD (marksOf ls) := by
    unfold mlogsD marksOf
    rw [List.map_map]
    rfl
  rw [e]
  exact q
def headOf (l : List Ent) : Nat := match l.getLast? with
  | some e => e.1
  | none => 0
def heads (ls : List (List Ent)) : List Nat := ls.map headOf
def sp_last_entries : DSp := fun ds M Q _ => ∃ ls : List (List Ent), ds = [logsD ls] ∧ ls.length ≤ 100 ∧ Q (.tup (natsD (heads ls))) M
theorem ok_last_entries (T : Tb g) : Kn g "last_entries" 1 ["logs"] sp_last_entries := by
  refine T.k_last_entries fun f fd F => fn_def (N := ["logs", "log"]) F ⟨rfl, rfl, rfl, by decide +kernel, rfl, by decide +kernel, by decide +kernel⟩ (by rintro _ _ _ _ ⟨_, rfl, _⟩; rfl) ?_
  rintro _ M Qd Ed cd ⟨ls, rfl, hz, q⟩
  refine sxs_one ?_
  refine sx_ret ?_
  refine ex_tupc rfl T.f_tuple ?_
  refine ex_lcP (own := [("log", 1)]) (by kernel_rfl) ?_
  refine ix_tupl ?_
  refine ex_name (i := 0) rfl rfl rfl ?_
  refine ⟨_, rfl, ?_⟩
  refine pur_map (xs := ls) (f := logD) (h := fun l => natD (headOf l)) (by omega) (fun _ _ => trivial) (fun l hx M' hM' => ?_) ?_
  · refine gw_name (i := 1) rfl rfl (by decide) ?_
    refine ⟨rfl, ?_⟩
    refine ex_if ?_
    refine tx_gt ?_
    refine ex_len rfl T.f_len ?_
    refine ex_name (i := 1) rfl rfl rfl ?_
    refine v_len_tup ?_
    refine ex_int ?_
    refine v_gt_nat (n := 0) ?_
    refine v_bl ?_
    rcases List.eq_nil_or_concat l with rfl | ⟨l', e, rfl⟩
    · refine cnd_pf (by simp) ?_
      refine ex_int ?_
      exact ⟨rfl, rfl⟩
    · refine cnd_pt (by simp) ?_
      refine ex_ixa ?_
      refine ex_ixa ?_
      refine ex_name (i := 1) rfl rfl rfl ?_
      refine ex_neg ?_
      refine ex_int ?_
      refine v_neg_int ?_
      refine v_ix_tup (d := entD e) (by rw [List.concat_eq_append, List.map_append]; exact atI_last) ?_
      refine ex_int ?_
      refine v_ix_tup (d := natD e.1) rfl ?_
      refine ⟨?_, rfl⟩
      unfold headOf
      rw [List.concat_eq_append, List.getLast?_append]
      rfl
  refine ⟨_, rfl, ?_⟩
  refine rt_of ?_
  have e : (ls.map fun l => natD (headOf l)) = natsD (heads ls) := by
    unfold natsD heads
    rw [List.map_map]
    rfl
  rw [e]
  exact q
def handBehind (ms : List Nat) (ls : List (List Ent)) : Option Nat := if ls.any (fun l => decide (0 < l.length)) = true then stretch 0 (arcs ms) (placeOf ms (heads ls)) else none
theorem heads_len (ls : List (List Ent)) : (heads ls).length = ls.length := List.length_map ..
def sp_hand_behind (g : Gb) : DSp := fun ds M Q _ => ∃ ms, ∃ ls : List (List Ent), ds = [dialD g ms, logsD ls] ∧ MsOk ms ∧ ls.length ≤ 100 ∧ Q (optD (handBehind ms ls)) M
theorem ok_hand_behind (T : Tb g) : Kn g "hand_behind" 2 ["dial", "logs"] (sp_hand_behind g) := by
  refine T.k_hand_behind fun f fd F => fn_def (N := ["dial", "logs", "log"]) F ⟨rfl, rfl, rfl, by decide +kernel, rfl, by decide +kernel, by decide +kernel⟩ (by rintro _ _ _ _ ⟨_, _, rfl, _⟩; rfl) ?_
  rintro _ M Qd Ed cd ⟨ms, ls, rfl, hm, hz, q⟩
  refine sxs_cons ?_
  refine sx_if ?_
  refine tx_not ?_
  refine tx_val ?_
  refine ex_any rfl T.f_any ?_
  refine ex_lcP (own := [("log", 2)]) (by kernel_rfl) ?_
  refine ix_tupl ?_
  refine ex_name (i := 1) rfl rfl rfl ?_
  refine ⟨_, rfl, ?_⟩
  refine pur_map (xs := ls) (f := logD) (h := fun l => .bl (decide (0 < l.length))) (by omega) (fun _ _ => trivial) (fun l hx M' hM' => ?_) ?_
  · refine gw_name (i := 2) rfl rfl (by decide) ?_
    refine ⟨rfl, ?_⟩
    refine ex_gt ?_
    refine ex_len rfl T.f_len ?_
    refine ex_name (i := 2) rfl rfl rfl ?_
    refine v_len_tup ?_
    refine ex_int ?_
    refine v_gt_nat (n := 0) ?_
    rw [List.length_map]
    exact ⟨rfl, rfl⟩
  refine .inl ⟨ls.map fun l => decide (0 < l.length), by show _ = _; rw [List.map_map]; rfl, ?_⟩
  have e : (ls.map fun l => decide (0 < l.length)).any id = ls.any fun l => decide (0 < l.length) := by rw [List.any_map]; rfl
  rw [e]
  unfold handBehind at q
  refine cnd (fun hb => ?_) fun hb => ?_
  · have hb : ls.any (fun l => decide (0 < l.length)) = false := by simpa using hb
    refine sxs_one ?_
    refine sx_ret ?_
    refine ex_non ?_
    rw [hb] at q
    exact rt_of q
  · have hb : ls.any (fun l => decide (0 < l.length)) = true := by simpa using hb
    rw [if_pos hb] at q
    refine sxs_nil ?_
    refine sxs_one ?_
    refine sx_ret ?_
    refine ex_call (ok_stretch_with T) (Nat.le_of_ble_eq_true rfl) rfl ?_
    refine ax2 ?_
    refine ex_fld T.cls_Dial T.no_Dial_arcs ?_
    refine ex_name (i := 0) rfl rfl rfl ?_
    refine ⟨_, _, _, ⟨rfl, rfl, rfl⟩, rfl, ?_⟩
    refine ex_call (ok_place_of T) (Nat.le_of_ble_eq_true rfl) rfl ?_
    refine ax2 ?_
    refine ex_name (i := 0) rfl rfl rfl ?_
    refine ex_call (ok_last_entries T) (Nat.le_of_ble_eq_true rfl) rfl ?_
    refine ax1 ?_
    refine ex_name (i := 1) rfl rfl rfl ?_
    refine ⟨ls, rfl, hz, ?_⟩
    refine ⟨ms, _, rfl, hm, by rw [heads_len]; exact hz, ?_⟩
    refine ⟨_, _, rfl, ?_⟩
    exact rt_of q
theorem zipIdx_modify {α β : Type} {f : α → α} {k : α → β} {h : Nat} : ∀ {ls : List α} {j : Nat}, ((ls.zipIdx j).map fun z => if z.2 = j + h then k (f z.1) else k z.1) = (ls.modify h f).map k
  | [], j => by simp
  | l :: ls, j => by
    rw [List.zipIdx_cons, List.map_cons]
    cases h with
    | zero =>
      have e : ∀ {ls : List α} {i : Nat}, j < i → ((ls.zipIdx i).map fun z => if z.2 = j + 0 then k (f z.1) else k z.1) = ls.map k := by
        intro ls
        induction ls with
        | nil => exact fun _ => rfl
        | cons x ls ih =>
          intro i hi
          rw [List.zipIdx_cons, List.map_cons, ih (by omega), if_neg (show ¬ (x, i).2 = j + 0 from by show ¬ i = j + 0; omega)]
          rfl
      rw [e (by omega), if_pos (show (l, j).2 = j + 0 from rfl)]
      simp
    | succ h =>
      rw [if_neg (show ¬ (l, j).2 = j + (h + 1) from by show ¬ j = j + (h + 1); omega)]
      have ih := zipIdx_modify (f := f) (k := k) (h := h) (ls := ls) (j := j + 1)
      rw [show j + (h + 1) = j + 1 + h by omega, ih]
      simp
/-- what is entered -/
def enter (ms : List Nat) (ls : List (List Ent)) (h : Nat) (t : Nat × Nat × Nat) : List (List Ent) := ls.modify h fun l => l ++ [(turned ms (heads ls) h, t)]
def sp_entered (g : Gb) : DSp := fun ds M Q _ => ∃ ms, ∃ ls : List (List Ent), ∃ h, ∃ t : Nat × Nat × Nat, ds = [dialD g ms, logsD ls, natD h, .tup [natD t.1, natD t.2.1, natD t.2.2]] ∧ MsOk ms ∧ ls.length = ms.length ∧ h < ms.length ∧ (∀ l ∈ ls, l.length ≤ 1000) ∧ Q (logsD (enter ms ls h t)) M
theorem ok_entered (T : Tb g) : Kn g "entered" 4 ["dial", "logs", "hand", "told"] (sp_entered g) := by
  refine T.k_entered fun f fd F => fn_def (N := ["dial", "logs", "hand", "told", "mark", "at", "log"]) F ⟨rfl, rfl, rfl, by decide +kernel, rfl, by decide +kernel, by decide +kernel⟩ (by rintro _ _ _ _ ⟨_, _, _, _, rfl, _⟩; rfl) ?_
  rintro _ M Qd Ed cd ⟨ms, ls, h, t, rfl, hm, hl, hh, hz, q⟩
  have hhi := hm.hi
  refine sxs_cons ?_
  refine sx_set (i := 4) rfl rfl ?_
  refine ex_ixa ?_
  refine ex_call (ok_acted T) (Nat.le_of_ble_eq_true rfl) rfl ?_
  refine ax3 ?_
  refine ex_name (i := 0) rfl rfl rfl ?_
  refine ex_call (ok_last_entries T) (Nat.le_of_ble_eq_true rfl) rfl ?_
  refine ax1 ?_
  refine ex_name (i := 1) rfl rfl rfl ?_
  refine ⟨ls, rfl, by omega, ?_⟩
  refine ex_name (i := 2) rfl rfl rfl ?_
  refine ⟨ms, _, h, rfl, hm, by rw [heads_len]; exact hl, hh, ?_⟩
  refine ex_name (i := 2) rfl rfl rfl ?_
  refine v_ix_tup (d := natD (turned ms (heads ls) h)) (atI_nat ?_) ?_
  · unfold natsD
    rw [List.map_set, List.getElem?_set_self (by rw [List.length_map, heads_len]; omega)]
  refine sxs_one ?_
  refine sx_ret ?_
  refine ex_tupc rfl T.f_tuple ?_
  refine ex_lcP (own := [("at", 5), ("log", 6)]) (by kernel_rfl) ?_
  refine ix_enT rfl T.f_enumerate ?_
  refine ex_name (i := 1) rfl rfl rfl ?_
  refine ⟨_, rfl, ?_⟩
  rw [show (0 : Int) = ((0 : Nat) : Int) from rfl, enuD_map]
  refine pur_map (h := fun z => if z.2 = 0 + h then logD (z.1 ++ [(turned ms (heads ls) h, t)]) else logD z.1) (by rw [List.length_zipIdx]; omega) (fun _ _ => trivial) (fun z hx M' hM' => ?_) ?_
  · have hzl : z.1.length ≤ 1000 := hz z.1 (List.fst_mem_of_mem_zipIdx hx)
    refine gw_tup (n := 2) ⟨_, rfl, rfl, ?_⟩
    refine gws_cons ?_
    refine gw_name (i := 5) rfl rfl (by decide) ?_
    refine gws_cons ?_
    refine gw_name (i := 6) rfl rfl (by decide) ?_
    refine gws_nil ?_
    refine ⟨rfl, ?_⟩
    refine ex_if ?_
    refine tx_eq ?_
    refine ex_name (i := 5) rfl rfl rfl ?_
    refine ex_name (i := 2) rfl rfl rfl ?_
    refine v_eq_nat ?_
    refine v_bl ?_
    refine cnd_p (fun hb => ?_) fun hb => ?_
    · refine ex_add ?_
      refine ex_name (i := 6) rfl rfl rfl ?_
      refine ex_tup ?_
      refine ax1 ?_
      refine ex_add ?_
      refine ex_tup ?_
      refine ax1 ?_
      refine ex_name (i := 4) rfl rfl rfl ?_
      refine ⟨by show 1 ≤ sizeLine; decide, ?_⟩
      refine ex_name (i := 3) rfl rfl rfl ?_
      refine v_add_tup (by show 4 ≤ sizeLine; decide) ?_
      refine ⟨by show 1 ≤ sizeLine; decide, ?_⟩
      refine v_add_tup (by rw [List.length_map]; exact Nat.le_trans (Nat.add_le_add_right hzl 1) (by decide)) ?_
      refine ⟨?_, rfl⟩
      rw [if_pos (by omega)]
      unfold logD
      rw [List.map_append]
      rfl
    · refine ex_name (i := 6) rfl rfl rfl ?_
      refine ⟨?_, rfl⟩
      rw [if_neg (by omega)]
  refine ⟨_, rfl, ?_⟩
  refine rt_of ?_
  rw [zipIdx_modify (f := fun l => l ++ [(turned ms (heads ls) h, t)]) (k := logD)]
  exact q
def sp_taken : DSp := fun ds M Q _ => ∃ ls : List (List Ent), ∃ h, ds = [logsD ls, natD h] ∧ ls.length ≤ 100 ∧ Q (logsD (ls.modify h List.dropLast)) M
theorem ok_taken (T : Tb g) : Kn g "taken" 1 ["logs", "hand"] sp_taken := by
  refine T.k_taken fun f fd F => fn_def (N := ["logs", "hand", "at", "log"]) F ⟨rfl, rfl, rfl, by decide +kernel, rfl, by decide +kernel, by decide +kernel⟩ (by rintro _ _ _ _ ⟨_, _, rfl, _⟩; rfl) ?_
  rintro _ M Qd Ed cd ⟨ls, h, rfl, hz, q⟩
  refine sxs_one ?_
  refine sx_ret ?_
  refine ex_tupc rfl T.f_tuple ?_
  refine ex_lcP (own := [("at", 2), ("log", 3)]) (by kernel_rfl) ?_
  refine ix_enT rfl T.f_enumerate ?_
  refine ex_name (i := 0) rfl rfl rfl ?_
  refine ⟨_, rfl, ?_⟩
  rw [show (0 : Int) = ((0 : Nat) : Int) from rfl, enuD_map]
  refine pur_map (h := fun z => if z.2 = 0 + h then logD z.1.dropLast else logD z.1) (by rw [List.length_zipIdx]; omega) (fun _ _ => trivial) (fun z hx M' hM' => ?_) ?_
  · refine gw_tup (n := 2) ⟨_, rfl, rfl, ?_⟩
    refine gws_cons ?_
    refine gw_name (i := 2) rfl rfl (by decide) ?_
    refine gws_cons ?_
    refine gw_name (i := 3) rfl rfl (by decide) ?_
    refine gws_nil ?_
    refine ⟨rfl, ?_⟩
    refine ex_if ?_
    refine tx_eq ?_
    refine ex_name (i := 2) rfl rfl rfl ?_
    refine ex_name (i := 1) rfl rfl rfl ?_
    refine v_eq_nat ?_
    refine v_bl ?_
    refine cnd_p (fun hb => ?_) fun hb => ?_
    · refine ex_slice ?_
      refine ex_name (i := 3) rfl rfl rfl ?_
      refine v_o_none ?_
      refine v_o_some ?_
      refine ex_neg ?_
      refine ex_int ?_
      refine v_neg_int ?_
      refine ⟨_, rfl, ?_⟩
      refine v_sl_tup ?_
      rw [cut_last]
      refine ⟨?_, rfl⟩
      rw [if_pos (by omega)]
      unfold logD
      rw [List.dropLast_eq_take, List.map_take, List.length_map]
    · refine ex_name (i := 3) rfl rfl rfl ?_
      refine ⟨?_, rfl⟩
      rw [if_neg (by omega)]
  refine ⟨_, rfl, ?_⟩
  refine rt_of ?_
  rw [zipIdx_modify (f := List.dropLast) (k := logD)]
  exact q
end DL

set_option Elab.async false
set_option linter.all false
set_option maxRecDepth 100000
set_option maxHeartbeats 1000000
/-! # The program's defs: class Store -/
namespace DL
open PySem PySem.Spec PyProof.Rows L2
open Evl (Ex)
variable {g : Gb}
abbrev storeN : List Str := ["dial", "hands", "cells", "done", "undone"]
abbrev storeF (g : Gb) (ms cs : List Nat) (dn un : List (List Ent)) : List D := [dialD g ms, hndD g ms, .tup (natsD cs), logsD dn, logsD un]
abbrev storeO (g : Gb) (ms cs : List Nat) (dn un : List (List Ent)) : MO := .ins (ga g "Store") storeN (storeF g ms cs dn un)
abbrev noLogs (n : Nat) : List (List Ent) := List.replicate n []
theorem noLogs_rep {n : Nat} : (List.replicate ((n : Int)).toNat [D.tup []]).flatten = (noLogs n).map logD := by
  rw [Int.toNat_natCast]
  induction n with
  | zero => rfl
  | succ n ih =>
    rw [List.replicate_succ, List.flatten_cons, ih]
    rfl
theorem v_mul_logs {M : Mem} {Q : D → Mem → Prop} {n : Nat} (h : 2 ≤ n) (h2 : n ≤ 8) (q : Q (logsD (noLogs n)) M) : MulD (.tup [.tup []]) (.int (n : Int)) M Q := by
  refine ⟨by simp, by omega, by omega, by simp, ?_⟩
  rw [noLogs_rep]
  exact q
structure StOk (ms cs : List Nat) (dn un : List (List Ent)) : Prop where
  mo : MsOk ms
  co : cs.length ≤ 20
  dl : dn.length = ms.length
  ul : un.length = ms.length
  d1 : ∀ l ∈ dn, l.length ≤ 900
  u1 : ∀ l ∈ un, l.length ≤ 900
abbrev badTell (g : Gb) (ms : List Nat) (E : Addr → List Str → List D → Mem → Prop) (M : Mem) : Prop := E (ga g "NoTelling") ["top", "bottom"] [natD ((widths ms).sum / Nat.gcd (widths ms).sum (lcmL ms)), natD (lcmL ms / Nat.gcd (widths ms).sum (lcmL ms))] M
def sp_Store (g : Gb) : DSp := fun ds M Q E => ∃ p ms d cs, ds = [.ref p, hndD g ms, d] ∧ (d = .lst (natsD cs) ∨ d = .tup (natsD cs)) ∧ MsOk ms ∧ CellsOk cs ∧ M p = some (.ins (ga g "Store") [] []) ∧
  (TellOk ms → Q .non (mup M p (storeO g ms cs (noLogs ms.length) (noLogs ms.length)))) ∧ (¬ TellOk ms → badTell g ms E M)
theorem ok_Store (T : Tb g) : Kc g "Store" (ga g "Store") 8 ["self", "hands", "cells"] (sp_Store g) := by
  refine T.k_Store___init__ fun f fd F => fn_def (N := ["self", "hands", "cells"]) F ⟨rfl, rfl, rfl, by decide +kernel, rfl, by decide +kernel, by decide +kernel⟩ (by rintro _ _ _ _ ⟨_, _, _, _, rfl, _⟩; rfl) ?_
  rintro _ M Qd Ed cd ⟨p, ms, d, cs, rfl, hd, hm, hc, hM, q, qE⟩
  have h1 := hm.lo
  have h2 := hm.hi
  refine sxs_cons ?_
  refine sx_fld T.cls_Store T.no_Store_dial ?_
  refine EX.frz (ex_make (ok_Dial T) (Nat.le_of_ble_eq_true rfl) rfl ?_)
  refine ax1 ?_
  refine ex_name (i := 1) rfl rfl rfl ?_
  intro p1 hp1
  refine ⟨p1, ms, rfl, hm, mup_same, fun ht => ⟨rfl, ?_⟩, fun hn => ⟨M, MSub.new hp1, qE hn⟩⟩
  rw [mup_mup]
  refine frz_ins hp1 ?_
  refine ex_name (i := 0) rfl rfl rfl ?_
  refine ⟨_, _, _, rfl, hM, by decide, ?_⟩
  refine sxs_cons ?_
  refine sx_fld T.cls_Store T.no_Store_hands ?_
  refine ex_name (i := 1) rfl rfl rfl ?_
  refine ex_name (i := 0) rfl rfl rfl ?_
  refine ⟨_, _, _, rfl, mup_same, by decide, ?_⟩
  refine sxs_cons ?_
  refine sx_fld T.cls_Store T.no_Store_cells ?_
  refine ex_call (ok_check_cells T) (Nat.le_of_ble_eq_true rfl) rfl ?_
  refine ax1 ?_
  refine ex_name (i := 2) rfl rfl rfl ?_
  refine ⟨d, cs, rfl, hd, hc, ?_⟩
  refine ex_name (i := 0) rfl rfl rfl ?_
  refine ⟨_, _, _, rfl, mup_same, by decide, ?_⟩
  refine sxs_cons ?_
  refine sx_fld T.cls_Store T.no_Store_done ?_
  refine ex_mul ?_
  refine ex_tup ?_
  refine ax1 ?_
  refine ex_tup ?_
  refine ax_nil ?_
  refine ⟨by show 0 ≤ sizeLine; decide, ?_⟩
  refine ⟨by show 1 ≤ sizeLine; decide, ?_⟩
  refine ex_fld T.cls_Hands T.no_Hands_many ?_
  refine ex_name (i := 1) rfl rfl rfl ?_
  refine ⟨_, _, _, ⟨rfl, rfl, rfl⟩, rfl, ?_⟩
  refine v_mul_logs h1 h2 ?_
  refine ex_name (i := 0) rfl rfl rfl ?_
  refine ⟨_, _, _, rfl, mup_same, by decide, ?_⟩
  refine sxs_one ?_
  refine sx_fld T.cls_Store T.no_Store_undone ?_
  refine ex_mul ?_
  refine ex_tup ?_
  refine ax1 ?_
  refine ex_tup ?_
  refine ax_nil ?_
  refine ⟨by show 0 ≤ sizeLine; decide, ?_⟩
  refine ⟨by show 1 ≤ sizeLine; decide, ?_⟩
  refine ex_fld T.cls_Hands T.no_Hands_many ?_
  refine ex_name (i := 1) rfl rfl rfl ?_
  refine ⟨_, _, _, ⟨rfl, rfl, rfl⟩, rfl, ?_⟩
  refine v_mul_logs h1 h2 ?_
  refine ex_name (i := 0) rfl rfl rfl ?_
  refine ⟨_, _, _, rfl, mup_same, by decide, ?_⟩
  refine nx_of ?_
  rw [mup_mup, mup_mup, mup_mup, mup_mup]
  exact q ht
theorem logs_at {ls : List (List Ent)} {h : Nat} {l : List Ent} (hl : ls[h]? = some l) : atI (ls.map logD) (h : Int) = some (logD l) := atI_nat (by rw [List.getElem?_map, hl]; rfl)
theorem enter_at {ms : List Nat} {ls : List (List Ent)} {h : Nat} {t : Nat × Nat × Nat} {l : List Ent} (hl : ls[h]? = some l) : (enter ms ls h t)[h]? = some (l ++ [(turned ms (heads ls) h, t)]) := by
  unfold enter
  rw [List.getElem?_modify, hl]
  simp
def sp_put (g : Gb) : DSp := fun ds M Q E => ∃ p ms cs dn un, ∃ h c n : Nat, ds = [.ref p, natD h, natD c, natD n] ∧ StOk ms cs dn un ∧ M p = some (storeO g ms cs dn un) ∧ n < 1000000000 ∧
  (h < ms.length → c < cs.length → Q (natD (turned ms (heads dn) h)) (mup M p (storeO g ms (cs.set c n) (enter ms dn h (c, cs.getD c 0, n)) (noLogs ms.length)))) ∧
  (h < ms.length → ¬ c < cs.length → E (ga g "Refused") ["at"] [natD c] M) ∧ (¬ h < ms.length → E (ga g "NoHand") ["hand"] [natD h] M)
theorem ok_Store_put (T : Tb g) : Km g (ga g "Store") "put" 5 ["self", "hand", "cell", "number"] (sp_put g) := by
  refine T.k_Store_put fun f fd F => fn_def (N := ["self", "hand", "cell", "number"]) F ⟨rfl, rfl, rfl, by decide +kernel, rfl, by decide +kernel, by decide +kernel⟩ (by rintro _ _ _ _ ⟨_, _, _, _, _, _, _, _, rfl, _⟩; rfl) ?_
  rintro _ M Qd Ed cd ⟨p, ms, cs, dn, un, h, c, n, rfl, so, hM, hn, q, qR, qH⟩
  have h1 := so.mo.lo
  have h2 := so.mo.hi
  have hcs := so.co
  refine sxs_cons ?_
  refine sx_expr ?_
  refine ex_call (ok_need_hand T) (Nat.le_of_ble_eq_true rfl) rfl ?_
  refine ax2 ?_
  refine ex_fld T.cls_Store T.no_Store_hands ?_
  refine ex_name (i := 0) rfl rfl rfl ?_
  refine ⟨_, _, _, hM, rfl, ?_⟩
  refine ex_name (i := 1) rfl rfl rfl ?_
  refine ⟨ms, h, rfl, fun hh => ?_, fun hh => ⟨M, MSub.refl M, qH hh⟩⟩
  refine sxs_cons ?_
  refine sx_if ?_
  refine tx_not ?_
  refine tx_val ?_
  refine ex_call (ok_is_below T) (Nat.le_of_ble_eq_true rfl) rfl ?_
  refine ax2 ?_
  refine ex_name (i := 2) rfl rfl rfl ?_
  refine ex_len rfl T.f_len ?_
  refine ex_fld T.cls_Store T.no_Store_cells ?_
  refine ex_name (i := 0) rfl rfl rfl ?_
  refine ⟨_, _, _, hM, rfl, ?_⟩
  refine v_len_tup ?_
  rw [natsD_len]
  refine ⟨_, _, rfl, ?_⟩
  refine v_bl ?_
  by_cases hc : c < cs.length
  rotate_left
  · refine cnd_t (by simp; omega) ?_
    refine sxs_one ?_
    refine T.rRefused _ _ _ _ _ _ _ _ _ (Nat.le_of_ble_eq_true rfl) rfl rfl (fun _ => rfl) (fun _ => rfl) ?_
    refine ax1 ?_
    refine ex_name (i := 2) rfl rfl rfl ?_
    exact ⟨rfl, M, MSub.refl M, qR hh hc⟩
  refine cnd_f (by simp; omega) ?_
  refine sxs_nil ?_
  obtain ⟨l, hl⟩ : ∃ l, dn[h]? = some l := ⟨_, List.getElem?_eq_getElem (by have := so.dl; omega)⟩
  refine sxs_cons ?_
  refine sx_if ?_
  refine tx_not ?_
  refine tx_val ?_
  refine ex_call (ok_is_below T) (Nat.le_of_ble_eq_true rfl) rfl ?_
  refine ax2 ?_
  refine ex_name (i := 3) rfl rfl rfl ?_
  refine T.x_MOST_WORTH rfl ?_
  refine ⟨(n : Int), 1000000000, rfl, ?_⟩
  have en : (decide ((0 : Int) ≤ (n : Int)) && decide ((n : Int) < 1000000000)) = true := by simp; omega
  rw [en]
  refine v_bl ?_
  refine cnd_f rfl ?_
  refine sxs_nil ?_
  refine sxs_cons ?_
  refine sx_fld T.cls_Store T.no_Store_done ?_
  refine ex_call (ok_entered T) (Nat.le_of_ble_eq_true rfl) rfl ?_
  refine ax4 ?_
  refine ex_fld T.cls_Store T.no_Store_dial ?_
  refine ex_name (i := 0) rfl rfl rfl ?_
  refine ⟨_, _, _, hM, rfl, ?_⟩
  refine ex_fld T.cls_Store T.no_Store_done ?_
  refine ex_name (i := 0) rfl rfl rfl ?_
  refine ⟨_, _, _, hM, rfl, ?_⟩
  refine ex_name (i := 1) rfl rfl rfl ?_
  refine ex_tup ?_
  refine ax3 ?_
  refine ex_name (i := 2) rfl rfl rfl ?_
  refine ex_ixa ?_
  refine ex_fld T.cls_Store T.no_Store_cells ?_
  refine ex_name (i := 0) rfl rfl rfl ?_
  refine ⟨_, _, _, hM, rfl, ?_⟩
  refine ex_name (i := 2) rfl rfl rfl ?_
  refine v_ix_tup (natsD_at hc) ?_
  refine ex_name (i := 3) rfl rfl rfl ?_
  refine ⟨by show 3 ≤ sizeLine; decide, ?_⟩
  refine ⟨ms, dn, h, (c, cs.getD c 0, n), rfl, so.mo, so.dl, hh, fun l hl => by have := so.d1 l hl; omega, ?_⟩
  refine ex_name (i := 0) rfl rfl rfl ?_
  refine ⟨_, _, _, rfl, hM, by decide, ?_⟩
  refine sxs_cons ?_
  refine sx_fld T.cls_Store T.no_Store_undone ?_
  refine ex_mul ?_
  refine ex_tup ?_
  refine ax1 ?_
  refine ex_tup ?_
  refine ax_nil ?_
  refine ⟨by show 0 ≤ sizeLine; decide, ?_⟩
  refine ⟨by show 1 ≤ sizeLine; decide, ?_⟩
  refine ex_fld T.cls_Hands T.no_Hands_many ?_
  refine ex_fld T.cls_Store T.no_Store_hands ?_
  refine ex_name (i := 0) rfl rfl rfl ?_
  refine ⟨_, _, _, mup_same, rfl, ?_⟩
  refine ⟨_, _, _, ⟨rfl, rfl, rfl⟩, rfl, ?_⟩
  refine v_mul_logs h1 h2 ?_
  refine ex_name (i := 0) rfl rfl rfl ?_
  refine ⟨_, _, _, rfl, mup_same, by decide, ?_⟩
  refine sxs_cons ?_
  refine sx_fld T.cls_Store T.no_Store_cells ?_
  refine ex_call (ok_with_number T) (Nat.le_of_ble_eq_true rfl) rfl ?_
  refine ax3 ?_
  refine ex_fld T.cls_Store T.no_Store_cells ?_
  refine ex_name (i := 0) rfl rfl rfl ?_
  refine ⟨_, _, _, mup_same, rfl, ?_⟩
  refine ex_name (i := 2) rfl rfl rfl ?_
  refine ex_name (i := 3) rfl rfl rfl ?_
  refine ⟨cs, c, n, rfl, hc, by omega, ?_⟩
  refine ex_name (i := 0) rfl rfl rfl ?_
  refine ⟨_, _, _, rfl, mup_same, by decide, ?_⟩
  refine sxs_one ?_
  refine sx_ret ?_
  refine ex_ixa ?_
  refine ex_ixa ?_
  refine ex_ixa ?_
  refine ex_fld T.cls_Store T.no_Store_done ?_
  refine ex_name (i := 0) rfl rfl rfl ?_
  refine ⟨_, _, _, mup_same, rfl, ?_⟩
  refine ex_name (i := 1) rfl rfl rfl ?_
  refine v_ix_tup (logs_at (enter_at hl)) ?_
  refine ex_neg ?_
  refine ex_int ?_
  refine v_neg_int ?_
  refine v_ix_tup (d := entD (turned ms (heads dn) h, (c, cs.getD c 0, n))) (by rw [List.map_append]; exact atI_last) ?_
  refine ex_int ?_
  refine v_ix_tup (d := natD (turned ms (heads dn) h)) rfl ?_
  refine rt_of ?_
  rw [mup_mup, mup_mup]
  exact q hh hc
def sp_who_undoes (g : Gb) : DSp := fun ds M Q _ => ∃ p ms cs dn un, ds = [.ref p] ∧ StOk ms cs dn un ∧ M p = some (storeO g ms cs dn un) ∧ Q (optD (handBehind ms dn)) M
theorem ok_Store_who_undoes (T : Tb g) : Km g (ga g "Store") "who_undoes" 3 ["self"] (sp_who_undoes g) := by
  refine T.k_Store_who_undoes fun f fd F => fn_def (N := ["self"]) F ⟨rfl, rfl, rfl, by decide +kernel, rfl, by decide +kernel, by decide +kernel⟩ (by rintro _ _ _ _ ⟨_, _, _, _, _, rfl, _⟩; rfl) ?_
  rintro _ M Qd Ed cd ⟨p, ms, cs, dn, un, rfl, so, hM, q⟩
  refine sxs_one ?_
  refine sx_ret ?_
  refine ex_call (ok_hand_behind T) (Nat.le_of_ble_eq_true rfl) rfl ?_
  refine ax2 ?_
  refine ex_fld T.cls_Store T.no_Store_dial ?_
  refine ex_name (i := 0) rfl rfl rfl ?_
  refine ⟨_, _, _, hM, rfl, ?_⟩
  refine ex_fld T.cls_Store T.no_Store_done ?_
  refine ex_name (i := 0) rfl rfl rfl ?_
  refine ⟨_, _, _, hM, rfl, ?_⟩
  exact ⟨ms, dn, rfl, so.mo, by have := so.dl; have := so.mo.hi; omega, rt_of q⟩
def sp_who_redoes (g : Gb) : DSp := fun ds M Q _ => ∃ p ms cs dn un, ds = [.ref p] ∧ StOk ms cs dn un ∧ M p = some (storeO g ms cs dn un) ∧ Q (optD (handBehind ms un)) M
theorem ok_Store_who_redoes (T : Tb g) : Km g (ga g "Store") "who_redoes" 3 ["self"] (sp_who_redoes g) := by
  refine T.k_Store_who_redoes fun f fd F => fn_def (N := ["self"]) F ⟨rfl, rfl, rfl, by decide +kernel, rfl, by decide +kernel, by decide +kernel⟩ (by rintro _ _ _ _ ⟨_, _, _, _, _, rfl, _⟩; rfl) ?_
  rintro _ M Qd Ed cd ⟨p, ms, cs, dn, un, rfl, so, hM, q⟩
  refine sxs_one ?_
  refine sx_ret ?_
  refine ex_call (ok_hand_behind T) (Nat.le_of_ble_eq_true rfl) rfl ?_
  refine ax2 ?_
  refine ex_fld T.cls_Store T.no_Store_dial ?_
  refine ex_name (i := 0) rfl rfl rfl ?_
  refine ⟨_, _, _, hM, rfl, ?_⟩
  refine ex_fld T.cls_Store T.no_Store_undone ?_
  refine ex_name (i := 0) rfl rfl rfl ?_
  refine ⟨_, _, _, hM, rfl, ?_⟩
  exact ⟨ms, un, rfl, so.mo, by have := so.ul; have := so.mo.hi; omega, rt_of q⟩
theorem ent_tail (e : Ent) : cutD [natD e.1, natD e.2.1, natD e.2.2.1, natD e.2.2.2] (some 1) none = [natD e.2.1, natD e.2.2.1, natD e.2.2.2] := cut_drop (xs := [natD e.1, natD e.2.1, natD e.2.2.1, natD e.2.2.2]) (n := 1) (by show 1 ≤ 4; decide)
def sp_undo_last (g : Gb) : DSp := fun ds M Q _ => ∃ p ms cs dn un, ds = [.ref p] ∧ StOk ms cs dn un ∧ M p = some (storeO g ms cs dn un) ∧ ((handBehind ms dn = none ∧ Q .non M) ∨
  ∃ h l, ∃ e : Ent, handBehind ms dn = some h ∧ h < ms.length ∧ dn[h]? = some (l ++ [e]) ∧ e.2.1 < cs.length ∧ Q (natD h) (mup M p (storeO g ms (cs.set e.2.1 e.2.2.1) (dn.modify h List.dropLast) (enter ms un h e.2))))
theorem ok_Store_undo_last (T : Tb g) : Km g (ga g "Store") "undo_last" 5 ["self"] (sp_undo_last g) := by
  refine T.k_Store_undo_last fun f fd F => fn_def (N := ["self", "hand", "told"]) F ⟨rfl, rfl, rfl, by decide +kernel, rfl, by decide +kernel, by decide +kernel⟩ (by rintro _ _ _ _ ⟨_, _, _, _, _, rfl, _⟩; rfl) ?_
  rintro _ M Qd Ed cd ⟨p, ms, cs, dn, un, rfl, so, hM, q⟩
  have h2 := so.mo.hi
  have hcs := so.co
  have hdl := so.dl
  refine sxs_cons ?_
  refine sx_set (i := 1) rfl rfl ?_
  refine ex_meth0 (ok_Store_who_undoes T) T.cls_Store (Nat.le_of_ble_eq_true rfl) ?_
  refine ex_name (i := 0) rfl rfl rfl ?_
  refine ⟨_, _, hM, by decide, ?_⟩
  refine ⟨p, ms, cs, dn, un, rfl, so, hM, ?_⟩
  refine sxs_cons ?_
  refine sx_if ?_
  refine tx_notN ?_
  refine ex_name (i := 1) rfl rfl rfl ?_
  rcases q with ⟨e0, q⟩ | ⟨h, l, e, e0, hh, hl, he, q⟩
  · rw [e0]
    refine cnd_f rfl ?_
    refine sxs_nil ?_
    refine sxs_one ?_
    refine sx_ret ?_
    refine ex_name (i := 1) rfl rfl rfl ?_
    exact rt_of q
  · rw [e0]
    refine cnd_t rfl ?_
    refine sxs_cons ?_
    refine sx_set (i := 2) rfl rfl ?_
    refine ex_slice ?_
    refine ex_ixa ?_
    refine ex_ixa ?_
    refine ex_fld T.cls_Store T.no_Store_done ?_
    refine ex_name (i := 0) rfl rfl rfl ?_
    refine ⟨_, _, _, hM, rfl, ?_⟩
    refine ex_name (i := 1) rfl rfl rfl ?_
    refine v_ix_tup (logs_at hl) ?_
    refine ex_neg ?_
    refine ex_int ?_
    refine v_neg_int ?_
    refine v_ix_tup (d := entD e) (by rw [List.map_append]; exact atI_last) ?_
    refine v_o_some ?_
    refine ex_int ?_
    refine ⟨_, rfl, ?_⟩
    refine v_o_none ?_
    refine v_sl_tup ?_
    rw [ent_tail]
    refine sxs_cons ?_
    refine sx_fld T.cls_Store T.no_Store_done ?_
    refine ex_call (ok_taken T) (Nat.le_of_ble_eq_true rfl) rfl ?_
    refine ax2 ?_
    refine ex_fld T.cls_Store T.no_Store_done ?_
    refine ex_name (i := 0) rfl rfl rfl ?_
    refine ⟨_, _, _, hM, rfl, ?_⟩
    refine ex_name (i := 1) rfl rfl rfl ?_
    refine ⟨dn, h, rfl, by omega, ?_⟩
    refine ex_name (i := 0) rfl rfl rfl ?_
    refine ⟨_, _, _, rfl, hM, by decide, ?_⟩
    refine sxs_cons ?_
    refine sx_fld T.cls_Store T.no_Store_undone ?_
    refine ex_call (ok_entered T) (Nat.le_of_ble_eq_true rfl) rfl ?_
    refine ax4 ?_
    refine ex_fld T.cls_Store T.no_Store_dial ?_
    refine ex_name (i := 0) rfl rfl rfl ?_
    refine ⟨_, _, _, mup_same, rfl, ?_⟩
    refine ex_fld T.cls_Store T.no_Store_undone ?_
    refine ex_name (i := 0) rfl rfl rfl ?_
    refine ⟨_, _, _, mup_same, rfl, ?_⟩
    refine ex_name (i := 1) rfl rfl rfl ?_
    refine ex_name (i := 2) rfl rfl rfl ?_
    refine ⟨ms, un, h, e.2, rfl, so.mo, so.ul, hh, fun l hl => by have := so.u1 l hl; omega, ?_⟩
    refine ex_name (i := 0) rfl rfl rfl ?_
    refine ⟨_, _, _, rfl, mup_same, by decide, ?_⟩
    refine sxs_one ?_
    refine sx_fld T.cls_Store T.no_Store_cells ?_
    refine ex_call (ok_with_number T) (Nat.le_of_ble_eq_true rfl) rfl ?_
    refine ax3 ?_
    refine ex_fld T.cls_Store T.no_Store_cells ?_
    refine ex_name (i := 0) rfl rfl rfl ?_
    refine ⟨_, _, _, mup_same, rfl, ?_⟩
    refine ex_ixa ?_
    refine ex_name (i := 2) rfl rfl rfl ?_
    refine ex_int ?_
    refine v_ix_tup (d := natD e.2.1) rfl ?_
    refine ex_ixa ?_
    refine ex_name (i := 2) rfl rfl rfl ?_
    refine ex_int ?_
    refine v_ix_tup (d := natD e.2.2.1) rfl ?_
    refine ⟨cs, _, _, rfl, he, by omega, ?_⟩
    refine ex_name (i := 0) rfl rfl rfl ?_
    refine ⟨_, _, _, rfl, mup_same, by decide, ?_⟩
    refine sxs_one ?_
    refine sx_ret ?_
    refine ex_name (i := 1) rfl rfl rfl ?_
    refine rt_of ?_
    rw [mup_mup, mup_mup]
    exact q
def sp_redo_next (g : Gb) : DSp := fun ds M Q _ => ∃ p ms cs dn un, ds = [.ref p] ∧ StOk ms cs dn un ∧ M p = some (storeO g ms cs dn un) ∧ ((handBehind ms un = none ∧ Q .non M) ∨
  ∃ h l, ∃ e : Ent, handBehind ms un = some h ∧ h < ms.length ∧ un[h]? = some (l ++ [e]) ∧ e.2.1 < cs.length ∧ Q (natD h) (mup M p (storeO g ms (cs.set e.2.1 e.2.2.2) (enter ms dn h e.2) (un.modify h List.dropLast))))
theorem ok_Store_redo_next (T : Tb g) : Km g (ga g "Store") "redo_next" 5 ["self"] (sp_redo_next g) := by
  refine T.k_Store_redo_next fun f fd F => fn_def (N := ["self", "hand", "told"]) F ⟨rfl, rfl, rfl, by decide +kernel, rfl, by decide +kernel, by decide +kernel⟩ (by rintro _ _ _ _ ⟨_, _, _, _, _, rfl, _⟩; rfl) ?_
  rintro _ M Qd Ed cd ⟨p, ms, cs, dn, un, rfl, so, hM, q⟩
  have h2 := so.mo.hi
  have hcs := so.co
  have hul := so.ul
  refine sxs_cons ?_
  refine sx_set (i := 1) rfl rfl ?_
  refine ex_meth0 (ok_Store_who_redoes T) T.cls_Store (Nat.le_of_ble_eq_true rfl) ?_
  refine ex_name (i := 0) rfl rfl rfl ?_
  refine ⟨_, _, hM, by decide, ?_⟩
  refine ⟨p, ms, cs, dn, un, rfl, so, hM, ?_⟩
  refine sxs_cons ?_
  refine sx_if ?_
  refine tx_notN ?_
  refine ex_name (i := 1) rfl rfl rfl ?_
  rcases q with ⟨e0, q⟩ | ⟨h, l, e, e0, hh, hl, he, q⟩
  · rw [e0]
    refine cnd_f rfl ?_
    refine sxs_nil ?_
    refine sxs_one ?_
    refine sx_ret ?_
    refine ex_name (i := 1) rfl rfl rfl ?_
    exact rt_of q
  · rw [e0]
    refine cnd_t rfl ?_
    refine sxs_cons ?_
    refine sx_set (i := 2) rfl rfl ?_
    refine ex_slice ?_
    refine ex_ixa ?_
    refine ex_ixa ?_
    refine ex_fld T.cls_Store T.no_Store_undone ?_
    refine ex_name (i := 0) rfl rfl rfl ?_
    refine ⟨_, _, _, hM, rfl, ?_⟩
    refine ex_name (i := 1) rfl rfl rfl ?_
    refine v_ix_tup (logs_at hl) ?_
    refine ex_neg ?_
    refine ex_int ?_
    refine v_neg_int ?_
    refine v_ix_tup (d := entD e) (by rw [List.map_append]; exact atI_last) ?_
    refine v_o_some ?_
    refine ex_int ?_
    refine ⟨_, rfl, ?_⟩
    refine v_o_none ?_
    refine v_sl_tup ?_
    rw [ent_tail]
    refine sxs_cons ?_
    refine sx_fld T.cls_Store T.no_Store_undone ?_
    refine ex_call (ok_taken T) (Nat.le_of_ble_eq_true rfl) rfl ?_
    refine ax2 ?_
    refine ex_fld T.cls_Store T.no_Store_undone ?_
    refine ex_name (i := 0) rfl rfl rfl ?_
    refine ⟨_, _, _, hM, rfl, ?_⟩
    refine ex_name (i := 1) rfl rfl rfl ?_
    refine ⟨un, h, rfl, by omega, ?_⟩
    refine ex_name (i := 0) rfl rfl rfl ?_
    refine ⟨_, _, _, rfl, hM, by decide, ?_⟩
    refine sxs_cons ?_
    refine sx_fld T.cls_Store T.no_Store_done ?_
    refine ex_call (ok_entered T) (Nat.le_of_ble_eq_true rfl) rfl ?_
    refine ax4 ?_
    refine ex_fld T.cls_Store T.no_Store_dial ?_
    refine ex_name (i := 0) rfl rfl rfl ?_
    refine ⟨_, _, _, mup_same, rfl, ?_⟩
    refine ex_fld T.cls_Store T.no_Store_done ?_
    refine ex_name (i := 0) rfl rfl rfl ?_
    refine ⟨_, _, _, mup_same, rfl, ?_⟩
    refine ex_name (i := 1) rfl rfl rfl ?_
    refine ex_name (i := 2) rfl rfl rfl ?_
    refine ⟨ms, dn, h, e.2, rfl, so.mo, so.dl, hh, fun l hl => by have := so.d1 l hl; omega, ?_⟩
    refine ex_name (i := 0) rfl rfl rfl ?_
    refine ⟨_, _, _, rfl, mup_same, by decide, ?_⟩
    refine sxs_one ?_
    refine sx_fld T.cls_Store T.no_Store_cells ?_
    refine ex_call (ok_with_number T) (Nat.le_of_ble_eq_true rfl) rfl ?_
    refine ax3 ?_
    refine ex_fld T.cls_Store T.no_Store_cells ?_
    refine ex_name (i := 0) rfl rfl rfl ?_
    refine ⟨_, _, _, mup_same, rfl, ?_⟩
    refine ex_ixa ?_
    refine ex_name (i := 2) rfl rfl rfl ?_
    refine ex_int ?_
    refine v_ix_tup (d := natD e.2.1) rfl ?_
    refine ex_ixa ?_
    refine ex_name (i := 2) rfl rfl rfl ?_
    refine ex_int ?_
    refine v_ix_tup (d := natD e.2.2.2) rfl ?_
    refine ⟨cs, _, _, rfl, he, by omega, ?_⟩
    refine ex_name (i := 0) rfl rfl rfl ?_
    refine ⟨_, _, _, rfl, mup_same, by decide, ?_⟩
    refine sxs_one ?_
    refine sx_ret ?_
    refine ex_name (i := 1) rfl rfl rfl ?_
    refine rt_of ?_
    rw [mup_mup, mup_mup]
    exact q
def sheetD (cs : List Nat) (dn un : List (List Ent)) : D := .tup [.tup (natsD cs), logsD dn, logsD un]
def sp_sheet (g : Gb) : DSp := fun ds M Q _ => ∃ p ms cs dn un, ds = [.ref p] ∧ M p = some (storeO g ms cs dn un) ∧ Q (sheetD cs dn un) M
theorem ok_Store_sheet (T : Tb g) : Km g (ga g "Store") "sheet" 1 ["self"] (sp_sheet g) := by
  refine T.k_Store_sheet fun f fd F => fn_def (N := ["self"]) F ⟨rfl, rfl, rfl, by decide +kernel, rfl, by decide +kernel, by decide +kernel⟩ (by rintro _ _ _ _ ⟨_, _, _, _, _, rfl, _⟩; rfl) ?_
  rintro _ M Qd Ed cd ⟨p, ms, cs, dn, un, rfl, hM, q⟩
  refine sxs_one ?_
  refine sx_ret ?_
  refine ex_tup ?_
  refine ax3 ?_
  refine ex_fld T.cls_Store T.no_Store_cells ?_
  refine ex_name (i := 0) rfl rfl rfl ?_
  refine ⟨_, _, _, hM, rfl, ?_⟩
  refine ex_fld T.cls_Store T.no_Store_done ?_
  refine ex_name (i := 0) rfl rfl rfl ?_
  refine ⟨_, _, _, hM, rfl, ?_⟩
  refine ex_fld T.cls_Store T.no_Store_undone ?_
  refine ex_name (i := 0) rfl rfl rfl ?_
  refine ⟨_, _, _, hM, rfl, ?_⟩
  refine ⟨by show 3 ≤ sizeLine; decide, ?_⟩
  exact rt_of q
end DL

set_option Elab.async false
set_option linter.all false
set_option maxRecDepth 100000
set_option maxHeartbeats 1000000
/-! # The D-layer, part 14: tuple(reversed(tuple)) -/
namespace DL
open PySem PySem.Spec PyProof.Rows RT
theorem nolen_rt : typeLookup (.type "reversed") "__len__" = pure none := by rw [typeLookup_type, builtinLookup_eq_fast]; kernel_rfl
theorem hint_rt : typeLookup (.type "reversed") "__length_hint__" = pure (some (.builtin "reversed.__length_hint__")) := by rw [typeLookup_type, builtinLookup_eq_fast]; kernel_rfl
theorem slot_rt_hint : Slot "reversed" "__length_hint__" "reversed.__length_hint__" :=
  .of (owner := "reversed") (n := "__length_hint__") (by rw [typeLookup_type, builtinLookup_eq_fast]; kernel_rfl) (by decide +kernel) (by decide +kernel) (by decide +kernel)
    (by first | exact .inl (by decide +kernel) | exact .inr (by decide +kernel)) (by rw [isSubtype_type]; kernel_rfl)
theorem entry_rt_hint : entryFor table "reversed.__length_hint__" = some Builtin.«reversed.__length_hint__» := entryFor_of_tree (by kernel_rfl)
theorem args_rt_hint (a : Value) : argsOk "reversed.__length_hint__" ⟨[a], []⟩ := by
  unfold argsOk; rw [signature?_of (id := "reversed.__length_hint__") (n := ['_', '_', 't', 'n', 'i', 'h', '_', 'h', 't', 'g', 'n', 'e', 'l', '_', '_']) (o := ['d', 'e', 's', 'r', 'e', 'v', 'e', 'r']) (by kernel_rfl) owner_rt]; kernel_rfl
theorem isTup_at {h h' : Heap} {t : Addr} {items : Array Value} (x : IsTup h t items) (k : ∀ o, h.get? t = some o → h'.get? t = some o) : IsTup h' t items := by
  obtain ⟨o, ho, r⟩ := x
  exact ⟨o, k o ho, r⟩
theorem walks_rt {prog : Program} {w : World} {A : Around} (hh : A.handled = none) (I t : Addr) (hne : t ≠ I) (items : Array Value) (hz : items.size ≤ sizeLine) :
    Walks prog w A I [I, t] [I] items.size (fun i v => items[items.size - 1 - i]? = some v) (fun i h => i ≤ items.size ∧ IsRt h I t ((items.size : Int) - 1 - (i : Nat)) ∧ IsTup h t items) where
  sub := fun b hb => by
    rw [List.mem_singleton.mp hb]
    exact List.mem_cons_self
  frame := fun _ _ _ x hk => ⟨x.1, x.2.1.at fun o e => hk I List.mem_cons_self o e, isTup_at x.2.2 fun o e => hk t (List.mem_cons_of_mem _ List.mem_cons_self) o e⟩
  item := fun i s Q E hi x hQ => by
    obtain ⟨x1, hit, ht⟩ := x
    rw [show (items.size : Int) - 1 - ((i : Nat) : Int) = ((items.size - 1 - i : Nat) : Int) by omega] at hit
    have hx : items[items.size - 1 - i]? = some (items[items.size - 1 - i]'(by omega)) := Array.getElem?_eq_getElem (by omega)
    refine next_rt_item hit ht hx hz fun h' hit' hs' => ?_
    rw [show ((items.size - 1 - i : Nat) : Int) - 1 = (items.size : Int) - 1 - ((i + 1 : Nat) : Int) by omega] at hit'
    exact hQ _ h' (s.toks + 1) hx ⟨hi, hit', isTup_at ht fun o eo => (hs'.2 t hne).trans eo⟩ fun b o hb eo => hs'.extBut b o (fun h => hb (by rw [h]; exact List.mem_cons_self)) eo
  done := fun s Q E x hQ => by
    obtain ⟨x1, hit, ht⟩ := x
    rw [show (items.size : Int) - 1 - ((items.size : Nat) : Int) = -1 by omega] at hit
    exact next_rt_end hh hit fun h' he' => hQ h' s.toks fun b o hb eo => he' b o (fun h => hb (by rw [h]; exact List.mem_cons_self)) eo
  self := fun _ _ _ _ x hQ => iter_rt x.2.1 hQ
section
variable {prog : Program} {w : World} {A : Around} {E : Value → Shared → Prop} {s : Shared}
theorem hint_ok {it t : Addr} {items : Array Value} {Q : Bool → Shared → Prop} (hit : IsRt s.heap it t ((items.size : Int) - 1)) (ht : IsTup s.heap t items) (hn : items.size ≤ sizeLine)
    (h : ∀ tk, Q ((items.size : Int) != 0) { s with toks := tk }) : wpAny (model prog w) A (Builtin.List.listLengthHint (.ref it)) Q E s := by
  have hT : s.TypeIs (.ref it) "reversed" := hit.typeIs
  have hn63 := L2.line63
  have htl : Builtin.List.listTooLong (((items.size : Nat) : Int).toNat) = false := by
    rw [Int.toNat_natCast]
    simp [Builtin.List.listTooLong]
    exact hn
  unfold Builtin.List.listLengthHint
  refine wpAny_bind (wpAny_specialOf hT nolen_rt ?_)
  show wpAny _ A (specialOf (Value.ref it) (Str.ofString "__length_hint__") >>= _) _ _ _
  refine wpAny_bind (wpAny_specialOf hT hint_rt ?_)
  generalize hid : ("reversed.__length_hint__" : String) = id0
  wp_delta
  rw [show splitId id0 = some ("reversed", "__length_hint__") from by subst hid; decide +kernel]
  subst hid
  refine wpAny_bind (wpAny_isInstance (b := true) hT (by rw [isSubtype_type]; kernel_rfl) ?_)
  refine wpAny_ite_split (fun hab => absurd hab (by decide)) (fun _ => ?_)
  refine wpAny_ite_split (fun hab => absurd hab (by decide +kernel)) (fun _ => ?_)
  refine wpAny_bind (wpAny_rule ?_)
  refine wpAny_bind (wpAny_of_eq (slot_rt_hint.bind _) ?_)
  refine wpAny_bind (wpAny_attempt (wpAny_call_entry slot_rt_hint hT entry_rt_hint ?_ (args_rt_hint _)))
  obtain ⟨o, ho, hc, hd⟩ := id hit
  unfold Builtin.«reversed.__length_hint__»
  refine wpAny_bind (wpAny_of_eq (a := Value.ref it) rfl ?_)
  refine wpAny_bind (wpAny_field ho hd (x := .ref t) rfl ?_)
  refine wpAny_ite_split (fun hab => absurd hab (by simp)) (fun _ => ?_)
  refine wpAny_bind (PyProof.Rows.len_tuple ht (by omega) ?_)
  refine wpAny_bind (m := asInt? _) (wpAny_pure ?_)
  refine wpAny_bind (wpAny_field (s := { s with toks := s.toks + 1 + 1 }) ho hd (x := rawInt ((items.size : Int) - 1)) rfl ?_)
  refine wpAny_ite_split (fun hab => absurd hab (by omega)) (fun _ => ?_)
  refine wpAny_bind (wpAny_mkInt ?_)
  refine wpAny_pure ⟨_, rfl, ?_⟩
  rw [show (items.size : Int) - 1 + 1 = (items.size : Int) by omega]
  have hfit : Builtin.List.listFitsIndex ((items.size : Nat) : Int) = true := by
    have := sizeLine_eq
    unfold Builtin.List.listFitsIndex
    simp
    omega
  have hneg : ¬ ((items.size : Nat) : Int) < 0 := by omega
  generalize ((items.size : Nat) : Int) = n at hfit hneg htl h ⊢
  dsimp only
  refine wpAny_bind (wpAny_pure ?_)
  refine wpAny_ite_split (fun hab => absurd hab (by rw [hfit]; decide)) (fun _ => ?_)
  refine wpAny_ite_split (fun hab => absurd hab hneg) (fun _ => ?_)
  refine wpAny_ite_split (fun hab => absurd hab (by rw [htl]; decide)) (fun _ => ?_)
  exact wpAny_pure (h _)
theorem collect_rt {it t : Addr} {items : Array Value} {Q : List Value → Shared → Prop} (hh : A.handled = none) (hit : IsRt s.heap it t ((items.size : Int) - 1)) (ht : IsTup s.heap t items) (hne : t ≠ it) (hn : items.size ≤ sizeLine)
    (hQ : ∀ (h' : Heap) (tk : Nat) (acc : Array Value), (∀ b o, b ≠ it → s.heap.get? b = some o → h'.get? b = some o) → ItemsOf (fun i v => items[items.size - 1 - i]? = some v) acc items.size → Q acc.toList { s with heap := h', toks := tk }) :
    wpAny (model prog w) A (collect (.ref it)) Q E s := by
  have W := (walks_rt (prog := prog) (w := w) (A := A.in1) hh it t hne items hn).toS
  obtain ⟨oi, hoi, _⟩ := id hit
  obtain ⟨ol, hol, _⟩ := id ht
  have hSf : s.heap.objs.size ∉ [it, t] := fun hm => by
    rcases List.mem_cons.mp hm with e | hm
    · exact absurd (e ▸ Heap.lt_size hoi) (Nat.lt_irrefl _)
    · rw [List.mem_singleton] at hm
      exact absurd (hm ▸ Heap.lt_size hol) (Nat.lt_irrefl _)
  have hSi : s.heap.objs.size ≠ it := fun e => hSf (by rw [e]; exact List.mem_cons_self)
  unfold collect
  refine wpAny_bind (wpAny_runValue (codeAny_builtin F.entry_proto_collect ?_))
  rw [Around.under_plainId F.plain_proto_collect _]
  show wpAny _ A.in1 (newList [] >>= fun l' => again (.builtin "list.__iadd__" ⟨[l', .ref it], []⟩)) _ _ s
  refine wpAny_bind (wpAny_newObj_type ?_)
  refine wpAny_pure ⟨plainId_quiet F.plain_list_iadd _, codeAny_builtin F.entry_list_iadd ?_⟩
  rw [Around.under_plainId F.plain_list_iadd _]
  have hS₁ : (s.heap.push { cls := .type "list", data := .seq ([] : List Value).toArray }).get? s.heap.objs.size = some { cls := .type "list", data := .seq ([] : List Value).toArray } := Heap.get?_push_size _ rfl
  have hit1 : IsRt (s.heap.push { cls := .type "list", data := .seq ([] : List Value).toArray }) it t ((items.size : Int) - 1) := hit.at fun o e => Heap.get?_push_of_some _ e
  have ht1 : IsTup (s.heap.push { cls := .type "list", data := .seq ([] : List Value).toArray }) t items := isTup_at ht fun o e => Heap.get?_push_of_some _ e
  have hT : ({ s with heap := s.heap.push { cls := .type "list", data := .seq ([] : List Value).toArray } } : Shared).TypeIs (.ref it) "reversed" := IsRt.typeIs (s := { s with heap := s.heap.push { cls := .type "list", data := .seq ([] : List Value).toArray } }) hit1
  have h1 : Builtin.List.listSameRef (.ref s.heap.objs.size) (.ref it) = false := by simp [Builtin.List.listSameRef, hSi]
  show wpAny _ A.in1 (Builtin.List.listExtendWith (.ref s.heap.objs.size) (.ref it) (.ref s.heap.objs.size)) _ _ _
  unfold Builtin.List.listExtendWith
  refine wpAny_bind (wpAny_typeOf hT ?_)
  rw [if_neg (by rw [h1]; decide)]
  refine wpAny_bind (iter_rt (s := { s with heap := s.heap.push { cls := .type "list", data := .seq ([] : List Value).toArray } }) hit1 ?_)
  refine wpAny_bind (wpAny_holding ?_)
  have e0 : ((items.size : Nat) : Int) - 1 - ((0 : Nat) : Int) = (items.size : Int) - 1 := by omega
  refine hint_ok (s := { s with heap := s.heap.push { cls := .type "list", data := .seq ([] : List Value).toArray } }) hit1 ht1 hn fun tk => ?_
  refine wpAny_ite_split (fun _ => ?_) (fun _ => ?_)
  · refine wpAny_bind (wpAny_rule ?_)
    refine wpAny_bind ?_
    show wpAny _ _ (updateSeq s.heap.objs.size (·.push .none) >>= fun _ => updateSeq s.heap.objs.size (·.pop)) _ _ _
    refine wpAny_bind (wpAny_updateSeq (s := { s with heap := s.heap.push { cls := .type "list", data := .seq ([] : List Value).toArray }, toks := tk }) hS₁ rfl ?_)
    have hS₂ := Heap.get?_update_self (Obj.mapSeq (·.push Value.none)) hS₁ rfl
    refine wpAny_updateSeq (s := { s with heap := (s.heap.push { cls := .type "list", data := .seq ([] : List Value).toArray }).update s.heap.objs.size (Obj.mapSeq (·.push Value.none)), toks := tk }) (hz := by seq_fits) hS₂ rfl ?_
    have hS₃ := Heap.get?_update_self (Obj.mapSeq (·.pop)) hS₂ rfl
    have oth : ∀ b o, b ≠ s.heap.objs.size → (s.heap.push { cls := .type "list", data := .seq ([] : List Value).toArray }).get? b = some o → (((s.heap.push { cls := .type "list", data := .seq ([] : List Value).toArray }).update s.heap.objs.size (Obj.mapSeq (·.push Value.none))).update s.heap.objs.size (Obj.mapSeq (·.pop))).get? b = some o :=
      fun b o hb e => (Heap.get?_update_other _ _ (Ne.symm hb)).trans ((Heap.get?_update_other _ _ (Ne.symm hb)).trans e)
    have hSt : s.heap.objs.size ≠ t := fun e => hSf (by rw [e]; exact List.mem_cons_of_mem _ List.mem_cons_self)
    refine wpAny_pure ⟨plainId_quiet F.plain_extend_loop _, codeAny_extend_loopS W hn _ hSf _ items.size 0 _ _ _ rfl (Nat.zero_le _) ⟨Nat.zero_le _, by rw [e0]; exact hit1.at fun o e => oth _ _ (Ne.symm hSi) e, isTup_at ht1 fun o e => oth _ _ (Ne.symm hSt) e⟩ hS₃ (ItemsOf.nil _) fun s' acc' c' hm hS' hacc => ?_⟩
    show wpAny _ A (load s.heap.objs.size >>= _) _ _ s'
    refine wpAny_bind (wpAny_load hS' ?_)
    refine wpAny_pure ?_
    rw [Moved.eq_with hm]
    refine hQ s'.heap s'.toks acc' (fun b o hb e => hm.heap b o (fun hmem => ?_) (oth b o (Nat.ne_of_lt (Heap.lt_size e)) (Heap.get?_push_of_some _ e))) hacc
    rcases List.mem_cons.mp hmem with e' | hmem
    · exact absurd (Heap.lt_size e) (by rw [e']; exact Nat.lt_irrefl _)
    · exact hb (List.mem_singleton.mp hmem)
  · refine wpAny_pure ⟨plainId_quiet F.plain_extend_loop _, codeAny_extend_loopS W hn _ hSf _ items.size 0 _ _ _ rfl (Nat.zero_le _) ⟨Nat.zero_le _, by rw [e0]; exact hit1, ht1⟩ hS₁ (ItemsOf.nil _) fun s' acc' c' hm hS' hacc => ?_⟩
    show wpAny _ A (load s.heap.objs.size >>= _) _ _ s'
    refine wpAny_bind (wpAny_load hS' ?_)
    refine wpAny_pure ?_
    rw [Moved.eq_with hm]
    refine hQ s'.heap s'.toks acc' (fun b o hb e => hm.heap b o (fun hmem => ?_) (Heap.get?_push_of_some _ e)) hacc
    rcases List.mem_cons.mp hmem with e' | hmem
    · exact absurd (Heap.lt_size e) (by rw [e']; exact Nat.lt_irrefl _)
    · exact hb (List.mem_singleton.mp hmem)
theorem code_tuple_rt {it t : Addr} {items : Array Value} {Q₁ : Value → Shared → Prop} (hh : A.handled = none) (hit : IsRt s.heap it t ((items.size : Int) - 1)) (ht : IsTup s.heap t items) (hne : t ≠ it) (hn : items.size ≤ sizeLine)
    (h : ∀ (h' : Heap) (tk : Nat) (acc : Array Value), (∀ b o, b ≠ it → s.heap.get? b = some o → h'.get? b = some o) → ItemsOf (fun i v => items[items.size - 1 - i]? = some v) acc items.size →
      Q₁ (.ref h'.objs.size) { s with heap := h'.push { cls := .type "tuple", data := .seq acc }, toks := tk }) :
    codeAny (model prog w) A (.call (.builtin "tuple.__new__") ⟨[.type "tuple", .ref it], []⟩) (wants Q₁ E) s := by
  refine codeAny_of_tree ?_
  show wpAny _ A.in1 (do checkBuiltinCall "tuple.__new__" ⟨[.type "tuple", .ref it], []⟩; again (.builtin "tuple.__new__" ⟨[.type "tuple", .ref it], []⟩)) _ _ s
  refine wpAny_bind (wpAny_of_eq (F.newCall_tuple_1 _) (wpAny_pure ⟨plainId_quiet F.plain_tuple_new _, codeAny_builtin F.entry_tuple_new ?_⟩))
  rw [Around.under_plainId F.plain_tuple_new _]
  have hsub := sub_tuple_self
  have hinit := init_tuple_lookup
  have hmh := madeHere_tuple
  have hTI : s.TypeIs (.ref it) "reversed" := hit.typeIs
  have hh1 : A.in1.handled = none := hh
  wp_walk using wpAny_typeOf hTI, collect_rt (A := A.in1) hh1 hit ht hne hn
  intro h' tk acc hk hacc
  show wpAny _ _ (Builtin.Tuple.tupleExact acc.toList.toArray >>= fun v => ret v) _ _ _
  unfold Builtin.Tuple.tupleExact
  refine wpAny_bind (wpAny_newObj_type ?_ (by show acc.toList.toArray.size ≤ sizeLine; simp only [Array.toArray_toList]; rw [hacc.1]; exact hn))
  refine wpAny_pure ?_
  rw [show acc.toList.toArray = acc by simp]
  exact h h' tk acc hk hacc
theorem call_tuple_rt {it t : Addr} {items : Array Value} {Q : Value → Shared → Prop} (hh : A.handled = none) (hit : IsRt s.heap it t ((items.size : Int) - 1)) (ht : IsTup s.heap t items) (hne : t ≠ it) (hn : items.size ≤ sizeLine)
    (hQ : ∀ (h' : Heap) (tk : Nat) (acc : Array Value), (∀ b o, b ≠ it → s.heap.get? b = some o → h'.get? b = some o) → ItemsOf (fun i v => items[items.size - 1 - i]? = some v) acc items.size →
      Q (.ref h'.objs.size) { s with heap := h'.push { cls := .type "tuple", data := .seq acc }, toks := tk }) :
    wpAny (model prog w) A (call (.type "tuple") [.ref it]) Q E s := by
  refine callType_codes (Q₁ := fun obj s₁ => s₁.TypeIs obj "tuple" ∧ Q obj s₁) F.called_tuple (F.typeCall_tuple_1 _) F.entry_object_init
    (code_tuple_rt (A := A.in1) hh hit ht hne hn fun h' tk acc hk hacc => ⟨⟨_, Heap.get?_push_size _ rfl, rfl⟩, hQ h' tk acc hk hacc⟩) fun obj s₁ h₁ => ?_
  exact ⟨h₁.1, F.args_object_init_2 obj _, object_init_meets F.called_tuple.init.lookup F.called_tuple.made (by decide) prog w A.in1 _ s₁ ⟨h₁.1, rfl, h₁.2⟩⟩
end
section
open L2
variable {X : Cx}
def tTupRevT (K : PySem.W.Frag) (te : TE) : TE := fun σ H Q => te σ H fun v H1 => ∃ (a : Addr) (xs : List V), v = .ref a ∧ SqT K H1 a xs ∧ ∀ q, H1 q = none → Q (.ref q) (upd H1 q (.tup xs.reverse))
theorem pe_tupRevT {e : Expr} {te : TE} {p p2 pos pos2 : Pos} (hc : X.calm = true) (hg : Gl X "tuple") (hm : X.mg "tuple" = none) (hg2 : Gl X "reversed") (hm2 : X.mg "reversed" = none) (he : PE X e te)
    (hs : starEach [e] X.env = (false, eval e X.env) :: starEach [] X.env := by rfl)
    (hs2 : starEach [.Call (.Name "reversed" p2) [e] [] pos2] X.env = (false, eval (.Call (.Name "reversed" p2) [e] [] pos2) X.env) :: starEach [] X.env := by rfl) :
    PE X (.Call (.Name "tuple" p) [.Call (.Name "reversed" p2) [e] [] pos2] [] pos) (tTupRevT X.K te) := by
  refine ⟨fun pins s σ H Q I h => ?_⟩
  refine Call_ (ld_blt I hg hm boot_tuple (PyProof.Rows.callWith_type1 (args_cons (Call_ (ld_blt I hg2 hm2 PyProof.Rows.boot_reversed (PyProof.Rows.callWith_type1 (args_cons (thn (he.run pins s σ H _ I h) fun u s1 ⟨v, H1, I1, r1, q1⟩ => args_nil ?_) hs) hs rfl))) hs2) hs2 rfl))
  obtain ⟨a, xs, ev, hq, q⟩ := q1
  subst ev
  obtain rfl : u = Value.ref a := r1
  obtain ⟨its, rv, p', hz⟩ := I1.tuple hq
  have hn63 := line63
  have hlen := rv.length
  refine call_reversed_tup p' (fun A E Q k => len_tuple p' (by simp only [List.size_toArray] <;> omega) k) (args_nil ?_)
  have k0 : ∀ b o, s1.heap.get? b = some o → (s1.heap.push (rtObj a ((its.toArray.size : Int) - 1))).get? b = some o := fun b o e => Heap.get?_push_of_some _ e
  have I2 : Inv X pins σ H1 { s1 with heap := s1.heap.push (rtObj a ((its.toArray.size : Int) - 1)), toks := s1.toks + 1 + 1 } := I1.kept (t' := s1.toks + 1 + 1) k0
  obtain ⟨f0, f1, f2, f3, f4, f5⟩ := I1.fpOk (H' := H1) (b := s1.heap.objs.size) (Nat.le_refl _) (I1.hok.fresh (Nat.le_refl _))
  obtain ⟨ol, hol, _⟩ := id p'
  have hne : a ≠ s1.heap.objs.size := Nat.ne_of_lt (Heap.lt_size hol)
  have hn : its.toArray.size ≤ sizeLine := by rw [List.size_toArray, ← rv.length]; exact hz
  refine call_tuple_rt (s := { s1 with heap := s1.heap.push (rtObj a ((its.toArray.size : Int) - 1)), toks := s1.toks + 1 + 1 }) (I1.ok.hd hc) ⟨_, Heap.get?_push_size _ rfl, rfl, rfl⟩ (isTup_at p' fun o e => k0 _ _ e) hne hn fun h' tk acc hk hi => ?_
  have I3 : Inv X pins σ H1 { s1 with heap := h', toks := tk } := I2.turned (t' := tk) (fun b o hb e => hk b o hb e) f0 f1 f3 f4 f5
  refine ⟨.ref h'.objs.size, upd H1 h'.objs.size (.tup xs.reverse), I3.laid (t' := tk) (fun c o e => Heap.get?_push_of_some _ e) (Nat.le_refl _) (show ObjOk X.prog X.w _ _ _ (.tup xs.reverse) from ⟨by rw [List.length_reverse]; exact hz, acc.toList, vals_rev rv hi, ?_⟩), rfl, q _ (I3.hok.fresh (Nat.le_refl _))⟩
  rw [Array.toArray_toList]
  exact IsTup.new _ _
open Evl (Ex)
variable {g : Gb} {c : Cz} {δ : Sl} {M : Mem} {Q : D → Mem → Prop} {pos p : Pos} {e : Expr}
theorem ex_tupRevT {p2 pos2 : Pos} (hg : gloB c.sc "tuple" = true) (hm : g.mg "tuple" = none) (hg2 : gloB c.sc "reversed" = true) (hm2 : g.mg "reversed" = none) (h : EX g c e δ M fun x M1 => ∃ ds, x = .tup ds ∧ Q (.tup ds.reverse) M1)
    (hs : ∀ env, starEach [e] env = (false, eval e env) :: starEach [] env := by intro _; rfl) (hs2 : ∀ env, starEach [.Call (.Name "reversed" p2) [e] [] pos2] env = (false, eval (.Call (.Name "reversed" p2) [e] [] pos2) env) :: starEach [] env := by intro _; rfl) :
    EX g c (.Call (.Name "tuple" p) [.Call (.Name "reversed" p2) [e] [] pos2] [] pos) δ M Q := by
  intro X F0 G F σ H eF st sl
  refine wE_of (pe_tupRevT G.calm (G.gl hg) (by rw [G.mg]; exact hm) (G.gl hg2) (by rw [G.mg]; exact hm2) pe_wE (hs X.env) (hs2 X.env)) (wE_mono (h X F0 G F σ H eF st sl) fun v H1 q => ?_)
  obtain ⟨F1, M1, x, e1, st1, rx, ds, rfl, q⟩ := q
  obtain ⟨l, vs, rfl, h1, h2⟩ := rx
  exact ⟨l, vs, rfl, by rw [G.K]; exact Evl.ex_t st1.ex h1, fun q' hq => PoE.tup e1 st1 hq h2.rev q⟩
end
end DL

set_option Elab.async false
set_option linter.all false
set_option maxRecDepth 100000
set_option maxHeartbeats 1000000
/-! # The program's defs: sheets -/
namespace DL
open PySem PySem.Spec PyProof.Rows L2
open Evl (Ex)
variable {g : Gb}
def EntOk (m k : Nat) (e : Ent) : Prop := e.1 < m ∧ e.2.1 < k ∧ e.2.2.1 < 1000000000 ∧ e.2.2.2 < 1000000000
def sp_is_entry : DSp := fun ds M Q _ => ∃ e : Ent, ∃ m k : Nat, ds = [entD e, natD m, natD k] ∧ EntOk m k e ∧ Q (.bl true) M
theorem ok_is_entry (T : Tb g) : Kn g "is_entry" 4 ["value", "marks", "many"] sp_is_entry := by
  refine T.k_is_entry fun f fd F => fn_def (N := ["value", "marks", "many", "bounds", "number", "most"]) F ⟨rfl, rfl, rfl, by decide +kernel, rfl, by decide +kernel, by decide +kernel⟩ (by rintro _ _ _ _ ⟨_, _, _, rfl, _⟩; rfl) ?_
  rintro _ M Qd Ed cd ⟨e, m, k, rfl, ⟨h1, h2, h3, h4⟩, q⟩
  refine sxs_cons ?_
  refine sx_if ?_
  refine tx_w ?_
  refine wt_or ?_
  refine tx_not ?_
  refine tx_val ?_
  refine ex_call (ok_is_sequence T) (Nat.le_of_ble_eq_true rfl) rfl ?_
  refine ax1 ?_
  refine ex_name (i := 0) rfl rfl rfl ?_
  refine ⟨_, rfl, ⟨"tuple", rfl, .inr rfl⟩, ?_⟩
  refine wt_or1 ?_
  refine tx_ne ?_
  refine ex_len rfl T.f_len ?_
  refine ex_name (i := 0) rfl rfl rfl ?_
  refine v_len_tup ?_
  refine ex_int ?_
  refine v_eq_nat (n := 4) ?_
  refine v_bl ?_
  refine cnd_f rfl ?_
  refine sxs_nil ?_
  refine sxs_cons ?_
  refine sx_set (i := 3) rfl rfl ?_
  refine ex_tup ?_
  refine ax4 ?_
  refine ex_name (i := 1) rfl rfl rfl ?_
  refine ex_name (i := 2) rfl rfl rfl ?_
  refine T.x_MOST_WORTH rfl ?_
  refine T.x_MOST_WORTH rfl ?_
  refine ⟨by show 4 ≤ sizeLine; decide, ?_⟩
  refine sxs_one ?_
  refine sx_ret ?_
  refine ex_all rfl T.f_all ?_
  refine ex_lcP (own := [("number", 4), ("most", 5)]) (by kernel_rfl) ?_
  refine ix_zipT rfl T.f_zip ?_
  refine ex_name (i := 0) rfl rfl rfl ?_
  refine ex_name (i := 3) rfl rfl rfl ?_
  refine ⟨_, _, rfl, rfl, ?_⟩
  have ez : zipD [natD e.1, natD e.2.1, natD e.2.2.1, natD e.2.2.2] [natD m, natD k, .int 1000000000, .int 1000000000] = [(e.1, (m : Int)), (e.2.1, (k : Int)), (e.2.2.1, 1000000000), (e.2.2.2, 1000000000)].map fun z : Nat × Int => .tup [natD z.1, .int z.2] := rfl
  rw [ez]
  have hall : ∀ z ∈ [(e.1, (m : Int)), (e.2.1, (k : Int)), (e.2.2.1, (1000000000 : Int)), (e.2.2.2, (1000000000 : Int))], (z.1 : Int) < z.2 := by
    intro z hz
    simp only [List.mem_cons, List.not_mem_nil, or_false] at hz
    rcases hz with rfl | rfl | rfl | rfl
    · show (e.1 : Int) < m; omega
    · show (e.2.1 : Int) < k; omega
    · show (e.2.2.1 : Int) < 1000000000; omega
    · show (e.2.2.2 : Int) < 1000000000; omega
  have hlen : [(e.1, (m : Int)), (e.2.1, (k : Int)), (e.2.2.1, (1000000000 : Int)), (e.2.2.2, (1000000000 : Int))].length ≤ 100000 := by show 4 ≤ 100000; decide
  generalize [(e.1, (m : Int)), (e.2.1, (k : Int)), (e.2.2.1, (1000000000 : Int)), (e.2.2.2, (1000000000 : Int))] = zs at hall hlen ⊢
  refine pur_map (h := fun z => .bl true) hlen (fun _ _ => trivial) (fun z hx M' hM' => ?_) ?_
  · refine gw_tup (n := 2) ⟨_, rfl, rfl, ?_⟩
    refine gws_cons ?_
    refine gw_name (i := 4) rfl rfl (by decide) ?_
    refine gws_cons ?_
    refine gw_name (i := 5) rfl rfl (by decide) ?_
    refine gws_nil ?_
    refine ⟨rfl, ?_⟩
    refine ex_call (ok_is_below T) (Nat.le_of_ble_eq_true rfl) rfl ?_
    refine ax2 ?_
    refine ex_name (i := 4) rfl rfl rfl ?_
    refine ex_name (i := 5) rfl rfl rfl ?_
    refine ⟨_, _, rfl, ?_⟩
    have hz := hall z hx
    refine ⟨?_, rfl⟩
    congr 1
    simp
    omega
  refine ⟨zs.map fun _ => true, by show _ = _; rw [List.map_map]; rfl, ?_⟩
  rw [all_true fun _ _ => rfl]
  exact rt_of q
structure LogsOk (ms : List Nat) (k : Nat) (ls : List (List Ent)) : Prop where
  len : ls.length = ms.length
  each : ∀ z ∈ ls.zip ms, z.1.length ≤ 900 ∧ ∀ e ∈ z.1, EntOk z.2 k e
def sp_entry_logs (g : Gb) : DSp := fun ds M Q _ => ∃ ms, ∃ ls : List (List Ent), ∃ k, ds = [hndD g ms, logsD ls, natD k] ∧ ms.length ≤ 8 ∧ LogsOk ms k ls ∧ Q (logsD ls) M
theorem zip_fst {α β : Type} {xs : List α} {ys : List β} (h : xs.length = ys.length) {x : α} (hx : x ∈ xs) : ∃ y, (x, y) ∈ xs.zip ys := by
  obtain ⟨i, hi⟩ := List.mem_iff_getElem?.mp hx
  have hlt := (List.getElem?_eq_some_iff.mp hi).1
  exact ⟨ys[i]'(by omega), List.mem_of_getElem? (i := i) (List.getElem?_zip_eq_some.mpr ⟨hi, List.getElem?_eq_getElem _⟩)⟩
theorem ok_entry_logs (T : Tb g) : Kn g "entry_logs" 5 ["hands", "value", "many"] (sp_entry_logs g) := by
  refine T.k_entry_logs fun f fd F => fn_def (N := ["hands", "value", "many", "log", "marks", "entry"]) F ⟨rfl, rfl, rfl, by decide +kernel, rfl, by decide +kernel, by decide +kernel⟩ (by rintro _ _ _ _ ⟨_, _, _, rfl, _⟩; rfl) ?_
  rintro _ M Qd Ed cd ⟨ms, ls, k, rfl, hms, hk, q⟩
  have hlen := hk.len
  refine sxs_cons ?_
  refine sx_if ?_
  refine tx_w ?_
  refine wt_or ?_
  refine tx_not ?_
  refine tx_val ?_
  refine ex_call (ok_is_sequence T) (Nat.le_of_ble_eq_true rfl) rfl ?_
  refine ax1 ?_
  refine ex_name (i := 1) rfl rfl rfl ?_
  refine ⟨_, rfl, ⟨"tuple", rfl, .inr rfl⟩, ?_⟩
  refine wt_or1 ?_
  refine tx_ne ?_
  refine ex_len rfl T.f_len ?_
  refine ex_name (i := 1) rfl rfl rfl ?_
  refine v_len_tup ?_
  refine ex_fld T.cls_Hands T.no_Hands_many ?_
  refine ex_name (i := 0) rfl rfl rfl ?_
  refine ⟨_, _, _, ⟨rfl, rfl, rfl⟩, rfl, ?_⟩
  refine v_eq_nat ?_
  refine v_bl ?_
  refine cnd_f (by rw [List.length_map]; simp; exact hlen) ?_
  refine sxs_nil ?_
  refine sxs_cons ?_
  refine sx_for ?_
  refine ix_zipT rfl T.f_zip ?_
  refine ex_name (i := 1) rfl rfl rfl ?_
  refine ex_fld T.cls_Hands T.no_Hands_marks ?_
  refine ex_name (i := 0) rfl rfl rfl ?_
  refine ⟨_, _, _, ⟨rfl, rfl, rfl⟩, rfl, ?_⟩
  refine ⟨_, _, rfl, rfl, ?_⟩
  unfold natsD
  rw [zipD_map]
  refine for_walk (fun r δ' M' => (∀ z ∈ r, z.1.length ≤ 900 ∧ ∀ e ∈ z.1, EntOk z.2 k e) ∧ M' = M ∧ ∃ u v w, δ' = [some (hndD g ms), some (logsD ls), some (natD k), u, v, w]) ⟨hk.each, rfl, _, _, _, rfl⟩ (fun _ _ _ _ => trivial) ?_ ?_
  · rintro ⟨l, m⟩ r δ' M' ⟨hr, rfl, u, v, w, rfl⟩
    obtain ⟨hl1, hl2⟩ := hr (l, m) List.mem_cons_self
    refine gx_tup (n := 2) ⟨_, rfl, rfl, ?_⟩
    refine gxs_cons ?_
    refine gx_name (i := 3) rfl rfl ?_
    refine gxs_cons ?_
    refine gx_name (i := 4) rfl rfl ?_
    refine gxs_nil ?_
    refine sxs_cons ?_
    refine sx_if ?_
    refine tx_w ?_
    refine wt_or ?_
    refine tx_not ?_
    refine tx_val ?_
    refine ex_call (ok_is_sequence T) (Nat.le_of_ble_eq_true rfl) rfl ?_
    refine ax1 ?_
    refine ex_name (i := 3) rfl rfl rfl ?_
    refine ⟨_, rfl, ⟨"tuple", rfl, .inr rfl⟩, ?_⟩
    refine wt_or1 ?_
    refine tx_gt ?_
    refine ex_len rfl T.f_len ?_
    refine ex_name (i := 3) rfl rfl rfl ?_
    refine v_len_tup ?_
    refine T.x_MOST_STORY rfl ?_
    refine v_gt_nat (n := 10000) ?_
    refine v_bl ?_
    refine cnd_pf (by rw [List.length_map]; show ¬ 10000 < l.length; have : l.length ≤ 900 := hl1; omega) ?_
    refine sxs_nil ?_
    refine sxs_one ?_
    refine sx_if ?_
    refine tx_not ?_
    refine tx_val ?_
    refine ex_all rfl T.f_all ?_
    refine ex_lcP (own := [("entry", 5)]) (by kernel_rfl) ?_
    refine ix_tupl ?_
    refine ex_name (i := 3) rfl rfl rfl ?_
    refine ⟨_, rfl, ?_⟩
    refine pur_map (xs := l) (f := entD) (h := fun _ => .bl true) (by have : l.length ≤ 900 := hl1; omega) (fun _ _ => trivial) (fun e hx M2 hM2 => ?_) ?_
    · refine gw_name (i := 5) rfl rfl (by decide) ?_
      refine ⟨rfl, ?_⟩
      refine ex_call (ok_is_entry T) (Nat.le_of_ble_eq_true rfl) rfl ?_
      refine ax3 ?_
      refine ex_name (i := 5) rfl rfl rfl ?_
      refine ex_name (i := 4) rfl rfl rfl ?_
      refine ex_name (i := 2) rfl rfl rfl ?_
      exact ⟨e, m, k, rfl, hl2 e hx, rfl, rfl⟩
    refine ⟨l.map fun _ => true, by show _ = _; rw [List.map_map]; rfl, ?_⟩
    rw [all_true fun _ _ => rfl]
    refine v_bl ?_
    refine cnd_f rfl ?_
    refine sxs_nil ?_
    exact ⟨fun z hz => hr z (List.mem_cons_of_mem _ hz), rfl, _, _, _, rfl⟩
  · rintro δ' M' ⟨_, rfl, u, v, w, rfl⟩
    have h900 : ∀ l ∈ ls, l.length ≤ 900 := fun l hl => by
      obtain ⟨m, hm⟩ := zip_fst hlen hl
      exact (hk.each _ hm).1
    refine sxs_one ?_
    refine sx_ret ?_
    refine ex_tupc rfl T.f_tuple ?_
    refine ex_lcP (own := [("log", 3)]) (by kernel_rfl) ?_
    refine ix_tupl ?_
    refine ex_name (i := 1) rfl rfl rfl ?_
    refine ⟨_, rfl, ?_⟩
    refine pur_map (xs := ls) (f := logD) (h := logD) (by omega) (fun _ _ => trivial) (fun l hx M2 hM2 => ?_) ?_
    · refine gw_name (i := 3) rfl rfl (by decide) ?_
      refine ⟨rfl, ?_⟩
      refine ex_tupc rfl T.f_tuple ?_
      refine ex_lcP (own := [("entry", 5)]) (by kernel_rfl) ?_
      refine ix_tupl ?_
      refine ex_name (i := 3) rfl rfl rfl ?_
      refine ⟨_, rfl, ?_⟩
      refine pur_map (xs := l) (f := entD) (h := entD) (by have := h900 l hx; omega) (fun _ _ => trivial) (fun e hx2 M3 hM3 => ?_) ?_
      · refine gw_name (i := 5) rfl rfl (by decide) ?_
        refine ⟨rfl, ?_⟩
        refine ex_tupc rfl T.f_tuple ?_
        refine ex_name (i := 5) rfl rfl rfl ?_
        refine ⟨_, rfl, ?_⟩
        exact ⟨rfl, rfl⟩
      refine ⟨_, rfl, ?_⟩
      exact ⟨rfl, rfl⟩
    refine ⟨_, rfl, ?_⟩
    exact rt_of q
structure SheetOk (ms cs : List Nat) (dn un : List (List Ent)) : Prop where
  mo : MsOk ms
  co : CellsOk cs
  dn : LogsOk ms cs.length dn
  un : LogsOk ms cs.length un
def sp_check_sheet (g : Gb) : DSp := fun ds M Q _ => ∃ ms cs dn un, ds = [hndD g ms, sheetD cs dn un] ∧ SheetOk ms cs dn un ∧ Q (sheetD cs dn un) M
theorem ok_check_sheet (T : Tb g) : Kn g "check_sheet" 6 ["hands", "value"] (sp_check_sheet g) := by
  refine T.k_check_sheet fun f fd F => fn_def (N := ["hands", "value", "number", "done", "undone", "logs"]) F ⟨rfl, rfl, rfl, by decide +kernel, rfl, by decide +kernel, by decide +kernel⟩ (by rintro _ _ _ _ ⟨_, _, _, _, rfl, _⟩; rfl) ?_
  rintro _ M Qd Ed cd ⟨ms, cs, dn, un, rfl, so, q⟩
  have h1 := so.co.lo
  have h2 := so.co.hi
  refine sxs_cons ?_
  refine sx_if ?_
  refine tx_w ?_
  refine wt_or ?_
  refine tx_not ?_
  refine tx_val ?_
  refine ex_call (ok_is_sequence T) (Nat.le_of_ble_eq_true rfl) rfl ?_
  refine ax1 ?_
  refine ex_name (i := 1) rfl rfl rfl ?_
  refine ⟨_, rfl, ⟨"tuple", rfl, .inr rfl⟩, ?_⟩
  refine wt_or1 ?_
  refine tx_ne ?_
  refine ex_len rfl T.f_len ?_
  refine ex_name (i := 1) rfl rfl rfl ?_
  refine v_len_tup ?_
  refine ex_int ?_
  refine v_eq_nat (n := 3) ?_
  refine v_bl ?_
  refine cnd_f rfl ?_
  refine sxs_nil ?_
  refine sxs_cons ?_
  refine sx_if ?_
  refine tx_w ?_
  refine wt_or ?_
  refine tx_not ?_
  refine tx_val ?_
  refine ex_call (ok_is_sequence T) (Nat.le_of_ble_eq_true rfl) rfl ?_
  refine ax1 ?_
  refine ex_ixa ?_
  refine ex_name (i := 1) rfl rfl rfl ?_
  refine ex_int ?_
  refine v_ix_tup (d := .tup (natsD cs)) rfl ?_
  refine ⟨_, rfl, ⟨"tuple", rfl, .inr rfl⟩, ?_⟩
  refine wt_or1 ?_
  refine tx_not ?_
  refine tx_ch (fun _ => op_le) (fun _ => op_le) ?_
  refine ex_int ?_
  refine ex_len rfl T.f_len ?_
  refine ex_ixa ?_
  refine ex_name (i := 1) rfl rfl rfl ?_
  refine ex_int ?_
  refine v_ix_tup (d := .tup (natsD cs)) rfl ?_
  refine v_len_tup ?_
  rw [natsD_len]
  refine v_ch (fun hcc => ?_) fun hcc => absurd hcc (by simp; omega)
  refine T.x_MOST_CELLS rfl ?_
  refine ⟨_, rfl, ?_⟩
  refine cnd_f (by simp; omega) ?_
  refine sxs_nil ?_
  refine sxs_cons ?_
  refine sx_if ?_
  refine tx_not ?_
  refine tx_val ?_
  refine ex_all rfl T.f_all ?_
  refine ex_lcP (own := [("number", 2)]) (by kernel_rfl) ?_
  refine ix_tupl ?_
  refine ex_ixa ?_
  refine ex_name (i := 1) rfl rfl rfl ?_
  refine ex_int ?_
  refine v_ix_tup (d := .tup (natsD cs)) rfl ?_
  refine ⟨_, rfl, ?_⟩
  refine pur_map (xs := cs) (f := natD) (h := fun n => .bl (decide ((0 : Int) ≤ n) && decide ((n : Int) < 1000000000))) (by omega) (fun _ _ => trivial) (fun x hx M' hM' => ?_) ?_
  · refine gw_name (i := 2) rfl rfl (by decide) ?_
    refine ⟨rfl, ?_⟩
    refine ex_call (ok_is_below T) (Nat.le_of_ble_eq_true rfl) rfl ?_
    refine ax2 ?_
    refine ex_name (i := 2) rfl rfl rfl ?_
    refine T.x_MOST_WORTH rfl ?_
    refine ⟨_, _, rfl, ?_⟩
    exact ⟨rfl, rfl⟩
  refine ⟨cs.map fun n : Nat => (decide ((0 : Int) ≤ n) && decide ((n : Int) < 1000000000)), by show _ = _; rw [List.map_map]; rfl, ?_⟩
  rw [all_true fun n hn => by have := so.co.each n hn; simp; omega]
  refine v_bl ?_
  refine cnd_f rfl ?_
  refine sxs_nil ?_
  refine sxs_cons ?_
  refine sx_asg ?_
  refine ex_lcP (own := [("logs", 5)]) (by kernel_rfl) ?_
  refine ix_tupl ?_
  refine ex_slice ?_
  refine ex_name (i := 1) rfl rfl rfl ?_
  refine v_o_some ?_
  refine ex_int ?_
  refine ⟨_, rfl, ?_⟩
  refine v_o_none ?_
  refine v_sl_tup ?_
  rw [show cutD [.tup (natsD cs), logsD dn, logsD un] (some 1) none = [dn, un].map logsD from cut_drop (xs := [.tup (natsD cs), logsD dn, logsD un]) (n := 1) (by show 1 ≤ 3; decide)]
  refine ⟨_, rfl, ?_⟩
  have hall : ∀ ls ∈ [dn, un], LogsOk ms cs.length ls := by
    intro ls hl
    simp only [List.mem_cons, List.not_mem_nil, or_false] at hl
    rcases hl with rfl | rfl
    · exact so.dn
    · exact so.un
  refine pur_map (xs := [dn, un]) (f := logsD) (h := logsD) (by show 2 ≤ 100000; decide) (fun _ _ => trivial) (fun ls hx M' hM' => ?_) ?_
  · refine gw_name (i := 5) rfl rfl (by decide) ?_
    refine ⟨rfl, ?_⟩
    refine ex_call (ok_entry_logs T) (Nat.le_of_ble_eq_true rfl) rfl ?_
    refine ax3 ?_
    refine ex_name (i := 0) rfl rfl rfl ?_
    refine ex_name (i := 5) rfl rfl rfl ?_
    refine ex_len rfl T.f_len ?_
    refine ex_ixa ?_
    refine ex_name (i := 1) rfl rfl rfl ?_
    refine ex_int ?_
    refine v_ix_tup (d := .tup (natsD cs)) rfl ?_
    refine v_len_tup ?_
    rw [natsD_len]
    exact ⟨ms, ls, cs.length, rfl, so.mo.hi, hall ls hx, rfl, rfl⟩
  refine gx_tup (n := 2) ⟨_, rfl, rfl, ?_⟩
  refine gxs_cons ?_
  refine gx_name (i := 3) rfl rfl ?_
  refine gxs_cons ?_
  refine gx_name (i := 4) rfl rfl ?_
  refine gxs_nil ?_
  refine sxs_cons ?_
  refine sx_if ?_
  refine tx_w ?_
  refine wt_or ?_
  refine tx_isN ?_
  refine ex_name (i := 3) rfl rfl rfl ?_
  refine cnd_f rfl ?_
  refine wt_or1 ?_
  refine tx_isN ?_
  refine ex_name (i := 4) rfl rfl rfl ?_
  refine cnd_f rfl ?_
  refine sxs_nil ?_
  refine sxs_one ?_
  refine sx_ret ?_
  refine ex_tup ?_
  refine ax3 ?_
  refine ex_tupc rfl T.f_tuple ?_
  refine ex_ixa ?_
  refine ex_name (i := 1) rfl rfl rfl ?_
  refine ex_int ?_
  refine v_ix_tup (d := .tup (natsD cs)) rfl ?_
  refine ⟨_, rfl, ?_⟩
  refine ex_name (i := 3) rfl rfl rfl ?_
  refine ex_name (i := 4) rfl rfl rfl ?_
  refine ⟨by show 3 ≤ sizeLine; decide, ?_⟩
  exact rt_of q
end DL

set_option Elab.async false
set_option linter.all false
set_option maxRecDepth 100000
set_option maxHeartbeats 1000000
/-! # The program's defs: walked back, told anew -/
namespace DL
open PySem PySem.Spec PyProof.Rows L2
open Evl (Ex)
variable {g : Gb}
abbrev Deed := Nat × Nat × Nat
def deedD (d : Deed) : D := .tup [natD d.1, natD d.2.1, natD d.2.2]
def deedsD (l : List Deed) : D := .tup (l.map deedD)
def nowN (b : Bool) : Nat := if b then 3 else 2
def atN (b : Bool) (e : Ent) : Nat := if b then e.2.2.2 else e.2.2.1
def toN (b : Bool) (e : Ent) : Nat := if b then e.2.2.1 else e.2.2.2
theorem ent_now {b : Bool} {e : Ent} : atI [natD e.1, natD e.2.1, natD e.2.2.1, natD e.2.2.2] (nowN b : Int) = some (natD (atN b e)) := by cases b <;> rfl
theorem ent_to {b : Bool} {e : Ent} : atI [natD e.1, natD e.2.1, natD e.2.2.1, natD e.2.2.2] ((5 - nowN b : Nat) : Int) = some (natD (toN b e)) := by cases b <;> rfl
/-- the walk through the hands rs: the deeds that come up, the cells behind -/
def WalkOk (ls : List (List Ent)) (b : Bool) : List Nat → List Nat → List Nat → List Deed → List Nat → Prop
  | _, cs, [], ds, cs' => ds = [] ∧ cs' = cs
  | lf, cs, h :: r, ds, cs' => ∃ l, ∃ e : Ent, ∃ ds2, ls[h]? = some l ∧ h < lf.length ∧ 0 < lf.getD h 0 ∧ l[lf.getD h 0 - 1]? = some e ∧ e.2.1 < cs.length ∧ cs.getD e.2.1 0 = atN b e ∧ ds = (h, e.2.1, e.2.2.2) :: ds2 ∧ WalkOk ls b (lf.set h (lf.getD h 0 - 1)) (cs.set e.2.1 (toN b e)) r ds2 cs'
theorem zeros_rep {n : Nat} : (List.replicate ((n : Int)).toNat [D.int 0]).flatten = natsD (List.replicate n 0) := by
  rw [Int.toNat_natCast]
  induction n with
  | zero => rfl
  | succ n ih =>
    rw [List.replicate_succ, List.flatten_cons, ih]
    rfl
theorem lens_eq (ls : List (List Ent)) : (marksOf ls).map (·.length) = ls.map (·.length) := by
  unfold marksOf
  rw [List.map_map]
  refine List.map_congr_left fun l _ => ?_
  show (l.map (·.1)).length = l.length
  rw [List.length_map]
def sp_walked (g : Gb) : DSp := fun ds M Q _ => ∃ ms, ∃ ls : List (List Ent), ∃ cs b rs dd cs', ds = [dialD g ms, logsD ls, .tup (natsD cs), natD (nowN b)] ∧ MsOk ms ∧ ls.length = ms.length ∧ cs.length ≤ 20 ∧ (∀ l ∈ ls, l.length ≤ 900) ∧ rs.length ≤ 900 ∧
  BackOk ms (marksOf ls) (List.replicate ls.length 0) (ls.map (·.length)) rs ∧ WalkOk ls b (ls.map (·.length)) cs rs dd cs' ∧ Q (.tup [deedsD dd, .tup (natsD cs')]) M
theorem ok_walked (T : Tb g) : Kn g "walked" 3 ["dial", "logs", "cells", "now"] (sp_walked g) := by
  refine T.k_walked fun f fd F => fn_def (N := ["dial", "logs", "cells", "now", "story", "left", "log", "deeds", "hand", "entry"]) F ⟨rfl, rfl, rfl, by decide +kernel, rfl, by decide +kernel, by decide +kernel⟩ (by rintro _ _ _ _ ⟨_, _, _, _, _, _, _, rfl, _⟩; rfl) ?_
  rintro _ M Qd Ed cd ⟨ms, ls, cs, b, rs, dd, csF, rfl, hm, hl, hcs, h900, hrs, hB, hW, q⟩
  have hm1 := hm.lo
  have hm2 := hm.hi
  refine sxs_cons ?_
  refine sx_set (i := 4) rfl rfl ?_
  refine ex_call (ok_struck_back T) (Nat.le_of_ble_eq_true rfl) rfl ?_
  refine ax3 ?_
  refine ex_name (i := 0) rfl rfl rfl ?_
  refine ex_call (ok_marks_of T) (Nat.le_of_ble_eq_true rfl) rfl ?_
  refine ax1 ?_
  refine ex_name (i := 1) rfl rfl rfl ?_
  refine ⟨ls, rfl, by omega, fun l hl => by have := h900 l hl; omega, ?_⟩
  refine ex_mul ?_
  refine ex_tup ?_
  refine ax1 ?_
  refine ex_int ?_
  refine ⟨by show 1 ≤ sizeLine; decide, ?_⟩
  refine ex_len rfl T.f_len ?_
  refine ex_name (i := 1) rfl rfl rfl ?_
  refine v_len_tup ?_
  rw [List.length_map]
  refine ⟨by simp, by omega, by omega, by simp, ?_⟩
  rw [zeros_rep]
  refine ⟨ms, marksOf ls, List.replicate ls.length 0, rs, rfl, hm, by unfold marksOf; rw [List.length_map, List.length_replicate], by unfold marksOf; rw [List.length_map]; omega, by omega, by rw [lens_eq]; exact hB, ?_⟩
  refine sxs_cons ?_
  refine sx_if ?_
  refine tx_isN ?_
  refine ex_name (i := 4) rfl rfl rfl ?_
  refine cnd_f rfl ?_
  refine sxs_nil ?_
  refine sxs_cons ?_
  refine sx_setLcM (i := 5) (own := [("log", 6)]) (by kernel_rfl) rfl rfl rfl rfl ?_
  refine ix_tupl ?_
  refine ex_name (i := 1) rfl rfl rfl ?_
  refine ⟨_, rfl, ?_⟩
  refine pur_map (xs := ls) (f := logD) (h := fun l => natD l.length) (by omega) (fun _ _ => trivial) (fun x hx M' hM' => ?_) ?_
  · refine gw_name (i := 6) rfl rfl (by decide) ?_
    refine ⟨rfl, ?_⟩
    refine ex_len rfl T.f_len ?_
    refine ex_name (i := 6) rfl rfl rfl ?_
    refine v_len_tup ?_
    rw [List.length_map]
    exact ⟨rfl, rfl⟩
  intro p hp
  refine ⟨_, rfl, ?_⟩
  have e0 : (ls.map fun l => natD l.length) = natsD (ls.map (·.length)) := by
    unfold natsD
    rw [List.map_map]
    rfl
  rw [e0]
  refine sxs_cons ?_
  refine sx_set (i := 7) rfl rfl ?_
  refine ex_lstN ?_
  refine ax_nil ?_
  refine ⟨by show 0 ≤ sizeLine; decide, fun p2 hp2 => ?_⟩
  obtain ⟨n21, hp2⟩ := none_mup hp2
  have n12 : p ≠ p2 := fun z => n21 z.symm
  refine sxs_cons ?_
  refine sx_for ?_
  refine ix_rev rfl T.f_reversed ?_
  refine ex_name (i := 4) rfl rfl rfl ?_
  refine ⟨_, rfl, ?_⟩
  have er : (natsD rs.reverse).reverse = rs.map natD := by
    unfold natsD
    rw [List.map_reverse, List.reverse_reverse]
  rw [er]
  refine for_walk (xs := rs) (fun r δ' M' => ∃ lf cs' acc dr u v w, WalkOk ls b lf cs' r dr csF ∧ acc ++ dr = dd ∧ lf.length = ls.length ∧ cs'.length = cs.length ∧ acc.length + r.length ≤ 900 ∧ M' = mup (mup M p (.lst (natsD lf))) p2 (.lst (acc.map deedD)) ∧
    δ' = [some (dialD g ms), some (logsD ls), some (.tup (natsD cs')), some (natD (nowN b)), some (.tup (natsD rs.reverse)), some (.ref p), u, some (.ref p2), v, w])
    ⟨_, cs, [], dd, _, _, _, hW, rfl, by rw [List.length_map], rfl, by show 0 + rs.length ≤ 900; omega, rfl, rfl⟩ (fun _ _ _ _ => trivial) ?_ ?_
  · rintro h r δ' M' ⟨lf, cs', acc, dr, u, v, w, ⟨l, e, ds2, w1, w2, w3, w4, w5, w6, rfl, w8⟩, hacc, hlf, hcl, hal, rfl, rfl⟩
    have hmp : mup (mup M p (.lst (natsD lf))) p2 (.lst (acc.map deedD)) p = some (.lst (natsD lf)) := (mup_ne n12).trans mup_same
    have hal' : acc.length < 900 := by rw [List.length_cons] at hal; omega
    refine gx_name (i := 8) rfl rfl ?_
    refine sxs_cons ?_
    refine sx_augS (f := fun x y => x - y) (fun _ => ip_sub) ?_
    refine ex_name (i := 5) rfl rfl rfl ?_
    refine ex_name (i := 8) rfl rfl rfl ?_
    refine ⟨p, natsD lf, (h : Int), (lf.getD h 0 : Int), rfl, rfl, hmp, Int.natCast_nonneg _, ?_, ?_⟩
    · rw [Int.toNat_natCast]
      unfold natsD
      rw [List.getElem?_map, getD_at w2]
      rfl
    refine ex_int ?_
    refine ⟨1, rfl, hmp, ?_⟩
    have e1 : (natsD lf).set (h : Int).toNat (.int ((lf.getD h 0 : Int) - 1)) = natsD (lf.set h (lf.getD h 0 - 1)) := by
      unfold natsD
      rw [Int.toNat_natCast, List.map_set]
      congr 1
      show D.int _ = D.int _
      congr 1
      omega
    rw [e1]
    have e2 : mup (mup (mup M p (.lst (natsD lf))) p2 (.lst (acc.map deedD))) p (.lst (natsD (lf.set h (lf.getD h 0 - 1)))) = mup (mup M p (.lst (natsD (lf.set h (lf.getD h 0 - 1))))) p2 (.lst (acc.map deedD)) := by
      funext b
      unfold mup
      by_cases hb : b = p
      · subst hb
        rw [if_pos rfl, if_neg n12, if_pos rfl]
      · rw [if_neg hb, if_neg hb, if_neg hb]
    rw [e2]
    have hmp2 : mup (mup M p (.lst (natsD (lf.set h (lf.getD h 0 - 1))))) p2 (.lst (acc.map deedD)) p = some (.lst (natsD (lf.set h (lf.getD h 0 - 1)))) := (mup_ne n12).trans mup_same
    refine sxs_cons ?_
    refine sx_set (i := 9) rfl rfl ?_
    refine ex_ixa ?_
    refine ex_ixa ?_
    refine ex_name (i := 1) rfl rfl rfl ?_
    refine ex_name (i := 8) rfl rfl rfl ?_
    refine v_ix_tup (logs_at w1) ?_
    refine ex_ixa ?_
    refine ex_name (i := 5) rfl rfl rfl ?_
    refine ex_name (i := 8) rfl rfl rfl ?_
    refine v_ix_ref hmp2 (d := natD (lf.getD h 0 - 1)) (atI_nat ?_) ?_
    · unfold natsD
      rw [List.map_set, List.getElem?_set_self (by rw [List.length_map]; exact w2)]
    refine v_ix_tup (d := entD e) (atI_nat (by rw [List.getElem?_map, w4]; rfl)) ?_
    refine sxs_cons ?_
    refine sx_if ?_
    refine tx_ne ?_
    refine ex_ixa ?_
    refine ex_name (i := 2) rfl rfl rfl ?_
    refine ex_ixa ?_
    refine ex_name (i := 9) rfl rfl rfl ?_
    refine ex_int ?_
    refine v_ix_tup (d := natD e.2.1) rfl ?_
    refine v_ix_tup (natsD_at w5) ?_
    refine ex_ixa ?_
    refine ex_name (i := 9) rfl rfl rfl ?_
    refine ex_name (i := 3) rfl rfl rfl ?_
    refine v_ix_tup ent_now ?_
    refine v_eq_nat ?_
    refine v_bl ?_
    refine cnd_f (by rw [w6]; simp) ?_
    refine sxs_nil ?_
    refine sxs_cons ?_
    refine sx_set (i := 2) rfl rfl ?_
    refine ex_call (ok_with_number T) (Nat.le_of_ble_eq_true rfl) rfl ?_
    refine ax3 ?_
    refine ex_name (i := 2) rfl rfl rfl ?_
    refine ex_ixa ?_
    refine ex_name (i := 9) rfl rfl rfl ?_
    refine ex_int ?_
    refine v_ix_tup (d := natD e.2.1) rfl ?_
    refine ex_ixa ?_
    refine ex_name (i := 9) rfl rfl rfl ?_
    refine ex_sub ?_
    refine ex_int ?_
    refine ex_name (i := 3) rfl rfl rfl ?_
    refine v_sub_nat (m := 5) (by cases b <;> decide) ?_
    refine v_ix_tup ent_to ?_
    refine ⟨cs', e.2.1, toN b e, rfl, w5, by omega, ?_⟩
    refine sxs_one ?_
    refine sx_expr ?_
    refine ex_append ?_
    refine ex_name (i := 7) rfl rfl rfl ?_
    refine ⟨_, _, rfl, mup_same, ?_⟩
    refine ex_tup ?_
    refine ax3 ?_
    refine ex_name (i := 8) rfl rfl rfl ?_
    refine ex_ixa ?_
    refine ex_name (i := 9) rfl rfl rfl ?_
    refine ex_int ?_
    refine v_ix_tup (d := natD e.2.1) rfl ?_
    refine ex_ixa ?_
    refine ex_name (i := 9) rfl rfl rfl ?_
    refine ex_int ?_
    refine v_ix_tup (d := natD e.2.2.2) rfl ?_
    refine ⟨by show 3 ≤ sizeLine; decide, ?_⟩
    refine ⟨_, mup_same, by rw [List.length_map]; exact small1000 (by omega), ?_⟩
    refine ⟨_, _, acc ++ [(h, e.2.1, e.2.2.2)], ds2, _, _, _, w8, by rw [← hacc, List.append_assoc]; rfl, by rw [List.length_set]; exact hlf, by rw [List.length_set]; exact hcl, by rw [List.length_append, List.length_singleton]; rw [List.length_cons] at hal; omega, ?_, rfl⟩
    rw [mup_mup, List.map_append]
    rfl
  · rintro δ' M' ⟨lf, cs', acc, dr, u, v, w, ⟨rfl, rfl⟩, hacc, hlf, hcl, _, rfl, rfl⟩
    rw [List.append_nil] at hacc
    subst hacc
    refine sxs_one ?_
    refine sx_ret ?_
    refine ex_tup ?_
    refine ax2 ?_
    refine ex_tupc rfl T.f_tuple ?_
    refine ex_name (i := 7) rfl rfl rfl ?_
    refine ⟨_, mup_same, ?_⟩
    refine ex_name (i := 2) rfl rfl rfl ?_
    refine ⟨by show 2 ≤ sizeLine; decide, ?_⟩
    exact rt_sub ((MSub.new hp).trans (MSub.new (by rw [mup_ne n21]; exact hp2))) q
structure ToldOk (ms cs : List Nat) (dn un : List (List Ent)) (first : List Nat) (deeds left : List Deed) : Prop where
  sh : SheetOk ms cs dn un
  tell : TellOk ms
  f1 : CellsOk first
  back : ∃ rs, rs.length ≤ 900 ∧ BackOk ms (marksOf dn) (List.replicate dn.length 0) (dn.map (·.length)) rs ∧ WalkOk dn true (dn.map (·.length)) cs rs deeds.reverse first
  onward : ∃ rs csL, rs.length ≤ 900 ∧ BackOk ms (marksOf un) (List.replicate un.length 0) (un.map (·.length)) rs ∧ WalkOk un false (un.map (·.length)) cs rs left csL
theorem LogsOk.short {ms : List Nat} {k : Nat} {ls : List (List Ent)} (h : LogsOk ms k ls) : ∀ l ∈ ls, l.length ≤ 900 := fun l hl => by
  obtain ⟨m, hm⟩ := zip_fst h.len hl
  exact (h.each _ hm).1
def sp_ways_of (g : Gb) : DSp := fun ds M Q _ => ∃ ms cs dn un first deeds left, ds = [dialD g ms, sheetD cs dn un] ∧ ToldOk ms cs dn un first deeds left ∧ (∀ csL, Q (.tup [.tup [deedsD deeds.reverse, .tup (natsD first)], .tup [deedsD left, .tup (natsD csL)]]) M)
theorem ok_ways_of (T : Tb g) : Kn g "ways_of" 4 ["dial", "sheet"] (sp_ways_of g) := by
  refine T.k_ways_of fun f fd F => fn_def (N := ["dial", "sheet", "cells", "done", "undone", "back", "onward"]) F ⟨rfl, rfl, rfl, by decide +kernel, rfl, by decide +kernel, by decide +kernel⟩ (by rintro _ _ _ _ ⟨_, _, _, _, _, _, _, rfl, _⟩; rfl) ?_
  rintro _ M Qd Ed cd ⟨ms, cs, dn, un, first, deeds, left, rfl, tk, q⟩
  obtain ⟨rs, hr, hB, hW⟩ := tk.back
  obtain ⟨rs2, csL, hr2, hB2, hW2⟩ := tk.onward
  refine sxs_cons ?_
  refine sx_asg ?_
  refine ex_name (i := 1) rfl rfl rfl ?_
  refine gx_tup (n := 3) ⟨_, rfl, rfl, ?_⟩
  refine gxs_cons ?_
  refine gx_name (i := 2) rfl rfl ?_
  refine gxs_cons ?_
  refine gx_name (i := 3) rfl rfl ?_
  refine gxs_cons ?_
  refine gx_name (i := 4) rfl rfl ?_
  refine gxs_nil ?_
  refine sxs_cons ?_
  refine sx_set (i := 5) rfl rfl ?_
  refine ex_call (ok_walked T) (Nat.le_of_ble_eq_true rfl) rfl ?_
  refine ax4 ?_
  refine ex_name (i := 0) rfl rfl rfl ?_
  refine ex_name (i := 3) rfl rfl rfl ?_
  refine ex_name (i := 2) rfl rfl rfl ?_
  refine ex_int ?_
  refine ⟨ms, dn, cs, true, rs, deeds.reverse, first, rfl, tk.sh.mo, tk.sh.dn.len, tk.sh.co.hi, tk.sh.dn.short, hr, hB, hW, ?_⟩
  refine sxs_cons ?_
  refine sx_set (i := 6) rfl rfl ?_
  refine ex_call (ok_walked T) (Nat.le_of_ble_eq_true rfl) rfl ?_
  refine ax4 ?_
  refine ex_name (i := 0) rfl rfl rfl ?_
  refine ex_name (i := 4) rfl rfl rfl ?_
  refine ex_name (i := 2) rfl rfl rfl ?_
  refine ex_int ?_
  refine ⟨ms, un, cs, false, rs2, left, csL, rfl, tk.sh.mo, tk.sh.un.len, tk.sh.co.hi, tk.sh.un.short, hr2, hB2, hW2, ?_⟩
  refine sxs_one ?_
  refine sx_ret ?_
  refine ex_if ?_
  refine tx_w ?_
  refine wt_or ?_
  refine tx_isN ?_
  refine ex_name (i := 5) rfl rfl rfl ?_
  refine cnd_f rfl ?_
  refine wt_or1 ?_
  refine tx_isN ?_
  refine ex_name (i := 6) rfl rfl rfl ?_
  refine cnd_f rfl ?_
  refine ex_tup ?_
  refine ax2 ?_
  refine ex_name (i := 5) rfl rfl rfl ?_
  refine ex_name (i := 6) rfl rfl rfl ?_
  refine ⟨by show 2 ≤ sizeLine; decide, ?_⟩
  exact rt_of (q csL)
def sp_deeds_of (g : Gb) : DSp := fun ds M Q _ => ∃ ms cs dn un first deeds left, ds = [hndD g ms, sheetD cs dn un] ∧ ToldOk ms cs dn un first deeds left ∧ Q (.tup [.tup (natsD first), deedsD deeds, deedsD left]) M
theorem ok_deeds_of (T : Tb g) : Kn g "deeds_of" 8 ["hands", "sheet"] (sp_deeds_of g) := by
  refine T.k_deeds_of fun f fd F => fn_def (N := ["hands", "sheet", "dial", "ways"]) F ⟨rfl, rfl, rfl, by decide +kernel, rfl, by decide +kernel, by decide +kernel⟩ (by rintro _ _ _ _ ⟨_, _, _, _, _, _, _, rfl, _⟩; rfl) ?_
  rintro _ M Qd Ed cd ⟨ms, cs, dn, un, first, deeds, left, rfl, tk, q⟩
  refine sxs_cons ?_
  refine sx_set (i := 2) rfl rfl ?_
  refine EX.frz (ex_make (ok_Dial T) (Nat.le_of_ble_eq_true rfl) rfl ?_)
  refine ax1 ?_
  refine ex_name (i := 0) rfl rfl rfl ?_
  intro p1 hp1
  refine ⟨p1, ms, rfl, tk.sh.mo, mup_same, fun ht => ⟨rfl, ?_⟩, fun hn => absurd tk.tell hn⟩
  rw [mup_mup]
  refine frz_ins hp1 ?_
  refine sxs_cons ?_
  refine sx_set (i := 3) rfl rfl ?_
  refine ex_call (ok_ways_of T) (Nat.le_of_ble_eq_true rfl) rfl ?_
  refine ax2 ?_
  refine ex_name (i := 2) rfl rfl rfl ?_
  refine ex_call (ok_check_sheet T) (Nat.le_of_ble_eq_true rfl) rfl ?_
  refine ax2 ?_
  refine ex_name (i := 0) rfl rfl rfl ?_
  refine ex_name (i := 1) rfl rfl rfl ?_
  refine ⟨ms, cs, dn, un, rfl, tk.sh, ?_⟩
  refine ⟨ms, cs, dn, un, first, deeds, left, rfl, tk, fun csL => ?_⟩
  refine sxs_cons ?_
  refine sx_if ?_
  refine tx_isN ?_
  refine ex_name (i := 3) rfl rfl rfl ?_
  refine cnd_f rfl ?_
  refine sxs_nil ?_
  refine sxs_one ?_
  refine sx_ret ?_
  refine ex_tup ?_
  refine ax3 ?_
  refine ex_ixa ?_
  refine ex_ixa ?_
  refine ex_name (i := 3) rfl rfl rfl ?_
  refine ex_int ?_
  refine v_ix_tup (d := .tup [deedsD deeds.reverse, .tup (natsD first)]) rfl ?_
  refine ex_int ?_
  refine v_ix_tup (d := .tup (natsD first)) rfl ?_
  refine ex_tupRevT rfl T.f_tuple rfl T.f_reversed ?_
  refine ex_ixa ?_
  refine ex_ixa ?_
  refine ex_name (i := 3) rfl rfl rfl ?_
  refine ex_int ?_
  refine v_ix_tup (d := .tup [deedsD deeds.reverse, .tup (natsD first)]) rfl ?_
  refine ex_int ?_
  refine v_ix_tup (d := deedsD deeds.reverse) rfl ?_
  refine ⟨_, rfl, ?_⟩
  refine ex_ixa ?_
  refine ex_ixa ?_
  refine ex_name (i := 3) rfl rfl rfl ?_
  refine ex_int ?_
  refine v_ix_tup (d := .tup [deedsD left, .tup (natsD csL)]) rfl ?_
  refine ex_int ?_
  refine v_ix_tup (d := deedsD left) rfl ?_
  refine ⟨by show 3 ≤ sizeLine; decide, ?_⟩
  refine rt_of ?_
  have e : (deeds.reverse.map deedD).reverse = deeds.map deedD := by rw [List.map_reverse, List.reverse_reverse]
  rw [e]
  exact q
def sp_store_of (g : Gb) : DSp := fun ds M Q _ => ∃ ms cs dn un first deeds left, ds = [hndD g ms, sheetD cs dn un] ∧ ToldOk ms cs dn un first deeds left ∧ (∀ p, M p = none → Q (.ref p) (mup M p (storeO g ms cs dn un)))
theorem ok_store_of (T : Tb g) : Kn g "store_of" 10 ["hands", "sheet"] (sp_store_of g) := by
  refine T.k_store_of fun f fd F => fn_def (N := ["hands", "sheet", "made"]) F ⟨rfl, rfl, rfl, by decide +kernel, rfl, by decide +kernel, by decide +kernel⟩ (by rintro _ _ _ _ ⟨_, _, _, _, _, _, _, rfl, _⟩; rfl) ?_
  rintro _ M Qd Ed cd ⟨ms, cs, dn, un, first, deeds, left, rfl, tk, q⟩
  refine sxs_cons ?_
  refine sx_set (i := 2) rfl rfl ?_
  refine ex_make (ok_Store T) (Nat.le_of_ble_eq_true rfl) rfl ?_
  refine ax2 ?_
  refine ex_name (i := 0) rfl rfl rfl ?_
  refine ex_ixa ?_
  refine ex_call (ok_deeds_of T) (Nat.le_of_ble_eq_true rfl) rfl ?_
  refine ax2 ?_
  refine ex_name (i := 0) rfl rfl rfl ?_
  refine ex_name (i := 1) rfl rfl rfl ?_
  refine ⟨ms, cs, dn, un, first, deeds, left, rfl, tk, ?_⟩
  refine ex_int ?_
  refine v_ix_tup (d := .tup (natsD first)) rfl ?_
  intro p hp
  refine ⟨p, ms, .tup (natsD first), first, rfl, .inr rfl, tk.sh.mo, tk.f1, mup_same, fun _ => ⟨rfl, ?_⟩, fun hn => absurd tk.tell hn⟩
  rw [mup_mup]
  refine sxs_cons ?_
  refine sx_asg ?_
  refine ex_call (ok_check_sheet T) (Nat.le_of_ble_eq_true rfl) rfl ?_
  refine ax2 ?_
  refine ex_name (i := 0) rfl rfl rfl ?_
  refine ex_name (i := 1) rfl rfl rfl ?_
  refine ⟨ms, cs, dn, un, rfl, tk.sh, ?_⟩
  refine gx_tup (n := 3) ⟨_, rfl, rfl, ?_⟩
  refine gxs_cons ?_
  refine gx_fld T.cls_Store T.no_Store_cells ?_
  refine ex_name (i := 2) rfl rfl rfl ?_
  refine ⟨_, _, _, rfl, mup_same, by decide, ?_⟩
  refine gxs_cons ?_
  refine gx_fld T.cls_Store T.no_Store_done ?_
  refine ex_name (i := 2) rfl rfl rfl ?_
  refine ⟨_, _, _, rfl, mup_same, by decide, ?_⟩
  refine gxs_cons ?_
  refine gx_fld T.cls_Store T.no_Store_undone ?_
  refine ex_name (i := 2) rfl rfl rfl ?_
  refine ⟨_, _, _, rfl, mup_same, by decide, ?_⟩
  refine gxs_nil ?_
  refine sxs_one ?_
  refine sx_ret ?_
  refine ex_name (i := 2) rfl rfl rfl ?_
  rw [mup_mup, mup_mup, mup_mup]
  exact rt_of (q p hp)
end DL

set_option Elab.async false
set_option linter.all false
set_option maxRecDepth 100000
set_option maxHeartbeats 1000000
/-! # The program's defs: texts -/
namespace DL
open PySem PySem.Spec PyProof.Rows L2
open Evl (Ex)
open TL (tl numL)
variable {g : Gb}
def strN (n : Nat) : Str := Str.ofString (toString ((n : Nat) : Int))
theorem tl_strN (n : Nat) : tl (strN n) = numL n := TL.tl_num n
theorem strN_len {n k : Nat} (hk : 0 < k) (h : n < 10 ^ k) : (strN n).length ≤ k := by
  rw [TL.len_tl, tl_strN]
  exact TL.numL_len hk h
theorem strN_log {n : Nat} (h : n < 10 ^ 10) : ((n : Int)).natAbs.log2 < 1920 := by
  rw [Int.natAbs_natCast]
  by_cases h0 : n = 0
  · subst h0
    decide
  · exact Nat.lt_trans ((Nat.log2_lt (k := 64) h0).mpr (Nat.lt_trans h (by decide))) (by decide)
def numsT (l : List Nat) : Str := if 0 < l.length then Txt.join " " (l.map strN) else "-"
theorem sum_le {l : List Nat} {b : Nat} (h : ∀ x ∈ l, x ≤ b) : l.sum ≤ l.length * b := by
  induction l with
  | nil => simp
  | cons x l ih =>
    rw [List.sum_cons, List.length_cons, Nat.succ_mul]
    have := h x List.mem_cons_self
    have := ih fun y hy => h y (List.mem_cons_of_mem _ hy)
    omega
theorem nums_fit {l : List Nat} (hl : l.length ≤ 100) (h : ∀ n ∈ l, n < 10 ^ 10) : ((l.map strN).map (·.length)).sum + (l.map strN).length * (" " : Str).length ≤ 16777216 := by
  have h1 : ((l.map strN).map (·.length)).sum ≤ ((l.map strN).map (·.length)).length * 10 := sum_le fun x hx => by
    rw [List.map_map] at hx
    obtain ⟨n, hn, rfl⟩ := List.mem_map.mp hx
    exact strN_len (by decide) (h n hn)
  rw [List.length_map, List.length_map] at h1
  rw [List.length_map]
  have h2 : (" " : Str).length = 1 := rfl
  rw [h2]
  omega
def sp_numbers_text : DSp := fun ds M Q _ => ∃ l, ds = [.tup (natsD l)] ∧ l.length ≤ 100 ∧ (∀ n ∈ l, n < 10 ^ 10) ∧ Q (.str (numsT l)) M
theorem ok_numbers_text (T : Tb g) : Kn g "numbers_text" 1 ["numbers"] sp_numbers_text := by
  refine T.k_numbers_text fun f fd F => fn_def (N := ["numbers", "number"]) F ⟨rfl, rfl, rfl, by decide +kernel, rfl, by decide +kernel, by decide +kernel⟩ (by rintro _ _ _ _ ⟨_, rfl, _⟩; rfl) ?_
  rintro _ M Qd Ed cd ⟨l, rfl, hl, hb, q⟩
  unfold numsT at q
  refine sxs_one ?_
  refine sx_ret ?_
  refine ex_if ?_
  refine tx_gt ?_
  refine ex_len rfl T.f_len ?_
  refine ex_name (i := 0) rfl rfl rfl ?_
  refine v_len_tup ?_
  rw [natsD_len]
  refine ex_int ?_
  refine v_gt_nat (n := 0) ?_
  refine v_bl ?_
  refine cnd_p (fun hb1 => ?_) fun hb1 => ?_
  · rw [if_pos hb1] at q
    refine ex_join ?_
    refine ex_str ?_
    refine ⟨_, rfl, ?_⟩
    refine ex_lcP (own := [("number", 1)]) (by kernel_rfl) ?_
    refine ix_tupl ?_
    refine ex_name (i := 0) rfl rfl rfl ?_
    refine ⟨_, rfl, ?_⟩
    refine pur_map (xs := l) (f := natD) (h := fun n => .str (strN n)) (by omega) (fun _ _ => trivial) (fun n hx M' hM' => ?_) ?_
    · refine gw_name (i := 1) rfl rfl (by decide) ?_
      refine ⟨rfl, ?_⟩
      refine ex_strc rfl T.f_str ?_
      refine ex_name (i := 1) rfl rfl rfl ?_
      exact ⟨_, rfl, strN_log (hb n hx), rfl, rfl⟩
    refine ⟨l.map strN, by show _ = _; rw [List.map_map]; rfl, nums_fit hl hb, ?_⟩
    exact rt_of q
  · rw [if_neg hb1] at q
    refine T.x_NONE rfl ?_
    exact rt_of q
def readN (w : Str) : Nat → Nat → Option Nat
  | _, 0 => none
  | i, k + 1 => if w = strN i then some i else readN w (i + 1) k
def sp_read_number : DSp := fun ds M Q _ => ∃ w, ∃ k : Nat, ds = [.str w, natD k] ∧ k ≤ 1000 ∧ Q (optD (readN w 0 k)) M
theorem range_shift (i : Nat) : ∀ k, (List.range (k + 1)).map (fun j => i + j) = i :: (List.range k).map (fun j => i + 1 + j) := fun k => by
  rw [List.range_succ_eq_map, List.map_cons, List.map_map]
  congr 1
  refine List.map_congr_left fun j _ => ?_
  show i + (j + 1) = i + 1 + j
  omega
theorem ok_read_number (T : Tb g) : Kn g "read_number" 1 ["word", "most"] sp_read_number := by
  refine T.k_read_number fun f fd F => fn_def (N := ["word", "most", "number"]) F ⟨rfl, rfl, rfl, by decide +kernel, rfl, by decide +kernel, by decide +kernel⟩ (by rintro _ _ _ _ ⟨_, _, rfl, _⟩; rfl) ?_
  rintro _ M Qd Ed cd ⟨wd, k, rfl, hk, q⟩
  refine sxs_cons ?_
  refine sx_for ?_
  refine ix_rng1 rfl T.f_range ?_
  refine ex_name (i := 1) rfl rfl rfl ?_
  refine ⟨_, rfl, by omega, by omega, ?_⟩
  rw [rngD_zero, Int.toNat_natCast]
  refine for_walk (fun r δ' M' => ∃ i n, r = (List.range n).map (fun j => i + j) ∧ readN wd i n = readN wd 0 k ∧ i + n ≤ 1000 ∧ M' = M ∧ ∃ u, δ' = [some (.str wd), some (natD k), u]) ⟨0, k, by simp, rfl, by omega, rfl, _, rfl⟩ (fun _ _ _ _ => trivial) ?_ ?_
  · rintro x r δ' M' ⟨i, n, hr, hs, hin, rfl, u, rfl⟩
    obtain ⟨n', rfl, rfl, hr2⟩ : ∃ n', n = n' + 1 ∧ x = i ∧ r = (List.range n').map (fun j => i + 1 + j) := by
      cases n with
      | zero => cases hr
      | succ n' =>
        rw [range_shift] at hr
        injection hr with h1 h2
        exact ⟨n', rfl, h1, h2⟩
    refine gx_name (i := 2) rfl rfl ?_
    refine sxs_one ?_
    refine sx_if ?_
    refine tx_eq ?_
    refine ex_name (i := 0) rfl rfl rfl ?_
    refine ex_strc rfl T.f_str ?_
    refine ex_name (i := 2) rfl rfl rfl ?_
    refine ⟨_, rfl, strN_log (by omega), ?_⟩
    refine v_eq_str ?_
    refine v_bl ?_
    have e : readN wd x (n' + 1) = if wd = strN x then some x else readN wd (x + 1) n' := rfl
    refine cnd_p (fun hb => ?_) fun hb => ?_
    · have hb : wd = strN x := hb
      refine sxs_one ?_
      refine sx_ret ?_
      refine ex_name (i := 2) rfl rfl rfl ?_
      rw [← hs, e, if_pos hb] at q
      exact rt_of q
    · have hb : ¬ wd = strN x := hb
      refine sxs_nil ?_
      rw [e, if_neg hb] at hs
      exact ⟨x + 1, n', hr2, hs, by omega, rfl, _, rfl⟩
  · rintro δ' M' ⟨i, n, hr, hs, hin, rfl, u, rfl⟩
    have e : n = 0 := by
      cases n with
      | zero => rfl
      | succ n' =>
        rw [range_shift] at hr
        cases hr
    subst e
    refine sxs_one ?_
    refine sx_ret ?_
    refine ex_non ?_
    rw [← hs] at q
    exact rt_of q
def digB (c : Nat) : Bool := decide (48 ≤ c) && decide (c ≤ 57)
def toldN (w : Str) : Option Nat := if 1 ≤ w.length ∧ w.length ≤ 9 ∧ (tl w).all digB = true ∧ strN (NumText.digitsVal (tl w)) = w then some (NumText.digitsVal (tl w)) else none
theorem digits_of_all {l : List Nat} (h : l.all digB = true) : NumText.AllDigits l := fun c hc => by
  have := List.all_eq_true.mp h c hc
  unfold digB at this
  simpa using this
theorem digitsVal_lt : ∀ {l : List Nat} {a : Nat}, NumText.AllDigits l → l.foldl (fun acc c => acc * 10 + (c - 48)) a < (a + 1) * 10 ^ l.length
  | [], a, _ => by simp
  | c :: l, a, h => by
    have hc := h.head
    have ih := digitsVal_lt (l := l) (a := a * 10 + (c - 48)) h.tail
    rw [List.foldl_cons, List.length_cons, Nat.pow_succ]
    refine Nat.lt_of_lt_of_le ih ?_
    have : a * 10 + (c - 48) + 1 ≤ (a + 1) * 10 := by omega
    calc (a * 10 + (c - 48) + 1) * 10 ^ l.length ≤ (a + 1) * 10 * 10 ^ l.length := Nat.mul_le_mul_right _ this
      _ = (a + 1) * (10 ^ l.length * 10) := by rw [Nat.mul_assoc, Nat.mul_comm 10]
theorem digitsVal_bound {l : List Nat} (h : NumText.AllDigits l) (hl : l.length ≤ 9) : NumText.digitsVal l < 1000000000 := by
  have h1 := digitsVal_lt (a := 0) h
  have h2 : 10 ^ l.length ≤ 10 ^ 9 := Nat.pow_le_pow_right (by decide) hl
  unfold NumText.digitsVal
  omega
def sp_told_number : DSp := fun ds M Q _ => ∃ w, ds = [.str w] ∧ w.length ≤ sizeLine ∧ Q (optD (toldN w)) M
theorem figs_in (c : Nat) : decide (c ∈ ("0123456789" : Str).cps.toList) = digB c := by
  have e : ("0123456789" : Str).cps.toList = [48, 49, 50, 51, 52, 53, 54, 55, 56, 57] := by decide +kernel
  rw [e]
  unfold digB
  rw [← Bool.decide_and]
  refine dec_nat ?_
  simp only [List.mem_cons, List.not_mem_nil, or_false]
  omega
theorem ok_told_number (T : Tb g) : Kn g "told_number" 1 ["word"] sp_told_number := by
  refine T.k_told_number fun f fd F => fn_def (N := ["word", "sign"]) F ⟨rfl, rfl, rfl, by decide +kernel, rfl, by decide +kernel, by decide +kernel⟩ (by rintro _ _ _ _ ⟨_, rfl, _⟩; rfl) ?_
  rintro _ M Qd Ed cd ⟨wd, rfl, hz, q⟩
  unfold toldN at q
  refine sxs_cons ?_
  refine sx_if ?_
  refine tx_w ?_
  refine wt_or ?_
  refine tx_not ?_
  refine tx_ch (fun _ => op_le) (fun _ => op_le) ?_
  refine ex_int ?_
  refine ex_len rfl T.f_len ?_
  refine ex_name (i := 0) rfl rfl rfl ?_
  refine v_len_str hz ?_
  have hno : ¬ (1 ≤ wd.length ∧ wd.length ≤ 9 ∧ (tl wd).all digB = true ∧ strN (NumText.digitsVal (tl wd)) = wd) → SXs g (bodyC ["word", "sign"] (defScope (topS 68)) 0 Ed "told_number" cd) [.Return (some (.Constant .none 0 ⟨294, 15, 294, 19⟩)) ⟨294, 8, 294, 19⟩] (startD ["word", "sign"] [.str wd]) M
      { bodyO Qd with nx := fun δ1 M1 => SXs g (bodyC ["word", "sign"] (defScope (topS 68)) 0 Ed "told_number" cd) [(defBody (topS 68)).getD 1 (.Pass ⟨0, 0, 0, 0⟩)] δ1 M1 (bodyO Qd) } := fun hn => by
    refine sxs_one ?_
    refine sx_ret ?_
    refine ex_non ?_
    rw [if_neg hn] at q
    exact rt_of q
  refine v_ch (fun hc => ?_) fun hc => ?_
  rotate_left
  · have hc : ¬ 1 ≤ wd.length := fun z => by simp at hc; omega
    exact hno fun z => hc z.1
  have hc : 1 ≤ wd.length := by simp at hc; omega
  refine T.x_MOST_FIGURES rfl ?_
  refine ⟨_, rfl, ?_⟩
  by_cases h9 : wd.length ≤ 9
  rotate_left
  · refine cnd_t (by simp; omega) ?_
    exact hno fun z => h9 z.2.1
  refine cnd_f (by simp; omega) ?_
  refine wt_or1 ?_
  refine tx_not ?_
  refine tx_val ?_
  refine ex_all rfl T.f_all ?_
  refine ex_lcP (own := [("sign", 1)]) (by kernel_rfl) ?_
  refine ix_str ?_
  refine ex_name (i := 0) rfl rfl rfl ?_
  refine ⟨_, rfl, ?_⟩
  refine pur_map (xs := tl wd) (f := fun k => .str ⟨#[k]⟩) (h := fun k => .bl (digB k)) (by rw [← TL.len_tl]; omega) (fun _ _ => trivial) (fun k hx M' hM' => ?_) ?_
  · refine gw_name (i := 1) rfl rfl (by decide) ?_
    refine ⟨rfl, ?_⟩
    refine ex_in ?_
    refine ex_name (i := 1) rfl rfl rfl ?_
    refine T.x_FIGURES rfl ?_
    refine ⟨k, rfl, ?_⟩
    rw [figs_in]
    exact ⟨rfl, rfl⟩
  refine ⟨(tl wd).map digB, by show _ = _; rw [List.map_map]; rfl, ?_⟩
  have e1 : ((tl wd).map digB).all id = (tl wd).all digB := by rw [List.all_map]; rfl
  rw [e1]
  by_cases hd : (tl wd).all digB = true
  rotate_left
  · have hd' : (tl wd).all digB = false := by simpa using hd
    rw [hd']
    refine v_bl ?_
    refine cnd_t rfl ?_
    exact hno fun z => hd z.2.2.1
  rw [hd]
  refine v_bl ?_
  refine cnd_f rfl ?_
  refine sxs_nil ?_
  have had := digits_of_all hd
  have hne : tl wd ≠ [] := fun z => by
    rw [TL.len_tl, z] at hc
    cases hc
  have hin : PySem.intText? wd = some ((NumText.digitsVal (tl wd) : Nat) : Int) := PySem.intText_digits had hne (by omega)
  have hbd := digitsVal_bound had (by rw [← TL.len_tl]; exact h9)
  refine sxs_one ?_
  refine sx_ret ?_
  refine ex_if ?_
  refine tx_eq ?_
  refine ex_strc rfl T.f_str ?_
  refine ex_intc rfl T.f_int ?_
  refine ex_name (i := 0) rfl rfl rfl ?_
  refine ⟨_, hin, by omega, ?_⟩
  refine ⟨_, rfl, strN_log (by omega), ?_⟩
  refine ex_name (i := 0) rfl rfl rfl ?_
  refine v_eq_str ?_
  refine v_bl ?_
  refine cnd_p (fun hb => ?_) fun hb => ?_
  · refine ex_intc rfl T.f_int ?_
    refine ex_name (i := 0) rfl rfl rfl ?_
    refine ⟨_, hin, by omega, ?_⟩
    rw [if_pos ⟨hc, h9, hd, hb⟩] at q
    exact rt_of q
  · refine ex_non ?_
    rw [if_neg fun z => hb z.2.2.2] at q
    exact rt_of q
def rowsT (rows : List (List Nat)) : Str := if 0 < rows.length then Txt.join ", " (rows.map numsT) else "-"
theorem numsT_len {l : List Nat} (hl : l.length ≤ 4) (h : ∀ n ∈ l, n < 10 ^ 10) : (numsT l).length ≤ 100 := by
  unfold numsT
  split
  · rw [TL.len_tl, TL.join_eq, TL.tl_join]
    have key : ∀ parts : List (List Nat), (∀ p ∈ parts, p.length ≤ 10) → (TL.joinL (tl (" " : Str)) parts).length ≤ parts.length * 11 := by
      intro parts
      induction parts with
      | nil => intro _; exact Nat.zero_le _
      | cons p ps ih =>
        intro hp
        have h1 := hp p List.mem_cons_self
        have h2 := ih fun x hx => hp x (List.mem_cons_of_mem _ hx)
        cases ps with
        | nil =>
          show p.length ≤ _
          simp
          omega
        | cons q ps =>
          show (p ++ (tl (" " : Str) ++ TL.joinL (tl (" " : Str)) (q :: ps))).length ≤ _
          rw [List.length_append, List.length_append]
          have h3 : (tl (" " : Str)).length = 1 := rfl
          rw [h3]
          simp only [List.length_cons] at h2 ⊢
          omega
    refine Nat.le_trans (key _ fun p hp => ?_) ?_
    · rw [List.map_map] at hp
      obtain ⟨n, hn, rfl⟩ := List.mem_map.mp hp
      show (tl (strN n)).length ≤ 10
      rw [tl_strN]
      exact TL.numL_len (by decide) (h n hn)
    · rw [List.length_map, List.length_map]
      omega
  · show ("-" : Str).length ≤ 100
    decide +kernel
def sp_rows_text : DSp := fun ds M Q _ => ∃ rows : List (List Nat), ds = [.tup (rows.map fun l => .tup (natsD l))] ∧ rows.length ≤ 1000 ∧ (∀ l ∈ rows, l.length ≤ 4 ∧ ∀ n ∈ l, n < 10 ^ 10) ∧ Q (.str (rowsT rows)) M
theorem ok_rows_text (T : Tb g) : Kn g "rows_text" 2 ["rows"] sp_rows_text := by
  refine T.k_rows_text fun f fd F => fn_def (N := ["rows", "row"]) F ⟨rfl, rfl, rfl, by decide +kernel, rfl, by decide +kernel, by decide +kernel⟩ (by rintro _ _ _ _ ⟨_, rfl, _⟩; rfl) ?_
  rintro _ M Qd Ed cd ⟨rows, rfl, hl, hb, q⟩
  unfold rowsT at q
  refine sxs_one ?_
  refine sx_ret ?_
  refine ex_if ?_
  refine tx_gt ?_
  refine ex_len rfl T.f_len ?_
  refine ex_name (i := 0) rfl rfl rfl ?_
  refine v_len_tup ?_
  rw [List.length_map]
  refine ex_int ?_
  refine v_gt_nat (n := 0) ?_
  refine v_bl ?_
  refine cnd_p (fun hb1 => ?_) fun hb1 => ?_
  · rw [if_pos hb1] at q
    refine ex_join ?_
    refine ex_str ?_
    refine ⟨_, rfl, ?_⟩
    refine ex_lcP (own := [("row", 1)]) (by kernel_rfl) ?_
    refine ix_tupl ?_
    refine ex_name (i := 0) rfl rfl rfl ?_
    refine ⟨_, rfl, ?_⟩
    refine pur_map (xs := rows) (f := fun l => .tup (natsD l)) (h := fun l => .str (numsT l)) (by omega) (fun _ _ => trivial) (fun l hx M' hM' => ?_) ?_
    · refine gw_name (i := 1) rfl rfl (by decide) ?_
      refine ⟨rfl, ?_⟩
      refine ex_call (ok_numbers_text T) (Nat.le_of_ble_eq_true rfl) rfl ?_
      refine ax1 ?_
      refine ex_name (i := 1) rfl rfl rfl ?_
      exact ⟨l, rfl, by have := (hb l hx).1; omega, (hb l hx).2, rfl, rfl⟩
    refine ⟨rows.map numsT, by show _ = _; rw [List.map_map]; rfl, ?_, ?_⟩
    · have h1 : ((rows.map numsT).map (·.length)).sum ≤ ((rows.map numsT).map (·.length)).length * 100 := sum_le fun x hx => by
        rw [List.map_map] at hx
        obtain ⟨n, hn, rfl⟩ := List.mem_map.mp hx
        exact numsT_len (hb n hn).1 (hb n hn).2
      rw [List.length_map, List.length_map] at h1
      rw [List.length_map]
      have h2 : (", " : Str).length = 2 := by decide +kernel
      rw [h2]
      omega
    exact rt_of q
  · rw [if_neg hb1] at q
    refine ex_str ?_
    exact rt_of q
def handT : Option Nat → Str
  | some h => strN h
  | none => "-"
def sp_hand_text : DSp := fun ds M Q _ => ∃ o : Option Nat, ds = [optD o] ∧ (∀ h, o = some h → h < 10 ^ 10) ∧ Q (.str (handT o)) M
theorem ok_hand_text (T : Tb g) : Kn g "hand_text" 1 ["hand"] sp_hand_text := by
  refine T.k_hand_text fun f fd F => fn_def (N := ["hand"]) F ⟨rfl, rfl, rfl, by decide +kernel, rfl, by decide +kernel, by decide +kernel⟩ (by rintro _ _ _ _ ⟨_, rfl, _⟩; rfl) ?_
  rintro _ M Qd Ed cd ⟨o, rfl, hb, q⟩
  refine sxs_one ?_
  refine sx_ret ?_
  refine ex_if ?_
  refine tx_isN ?_
  refine ex_name (i := 0) rfl rfl rfl ?_
  cases o with
  | none =>
    refine cnd_t rfl ?_
    refine ex_str ?_
    exact rt_of q
  | some h =>
    refine cnd_f rfl ?_
    refine ex_strc rfl T.f_str ?_
    refine ex_name (i := 0) rfl rfl rfl ?_
    exact ⟨_, rfl, strN_log (hb h rfl), rt_of q⟩
end DL

set_option Elab.async false
set_option linter.all false
set_option maxRecDepth 100000
set_option maxHeartbeats 1000000
/-! # The program's defs: read_hands, read_store, Desk -/
namespace DL
open PySem PySem.Spec PyProof.Rows L2
open Evl (Ex)
open TL (tl numL)
variable {g : Gb}
def mksOf (z : Str) : List (Option Nat) := (Txt.split (cutS z (some 6) none) " ").map fun w => readN w 0 61
def noneIn (l : List (Option Nat)) : Bool := l.any (·.isNone)
def zeroIn (l : List (Option Nat)) : Bool := l.any (· == some 0)
def badH (z : Str) : Bool := !(decide (cutS z none (some 6) = "hands ")) || (!(decide (2 ≤ (mksOf z).length) && decide ((mksOf z).length ≤ 8)) || (noneIn (mksOf z) || zeroIn (mksOf z)))
def valsOf (l : List (Option Nat)) : List Nat := l.map (·.getD 0)
theorem in_non (l : List (Option Nat)) : inV (fv .non) ((l.map optD).map fv) = noneIn l := by
  unfold inV noneIn
  rw [List.map_map, List.any_map]
  refine congrArg (fun f => l.any f) (funext fun o => ?_)
  cases o <;> rfl
theorem in_zero (l : List (Option Nat)) : inV (fv (.int 0)) ((l.map optD).map fv) = zeroIn l := by
  unfold inV zeroIn
  rw [List.map_map, List.any_map]
  refine congrArg (fun f => l.any f) (funext fun o => ?_)
  cases o with
  | none => rfl
  | some k =>
    show eqV (.int (k : Int)) (.int 0) = (some k == some 0)
    show ((k : Int) == 0) = (some k == some 0)
    by_cases h : k = 0
    · subst h
      rfl
    · have h1 : ((k : Int) == 0) = false := by simp [h]
      have h2 : (some k == some 0) = false := by simp [h]
      rw [h1, h2]
theorem flat_opt (l : List (Option Nat)) : ((l.map optD).map fv).all flatV = true := by
  rw [List.map_map, List.all_map, List.all_eq_true]
  intro o _
  cases o <;> rfl
theorem vals_of {l : List (Option Nat)} (h : noneIn l = false) : l.map optD = natsD (valsOf l) := by
  unfold natsD valsOf
  rw [List.map_map]
  refine List.map_congr_left fun o ho => ?_
  cases o with
  | none =>
    exfalso
    unfold noneIn at h
    rw [List.any_eq_false] at h
    exact h none ho rfl
  | some k => rfl
theorem hands_len : ("hands " : Str).length = 6 := by decide +kernel
theorem cells_len : ("cells " : Str).length = 6 := by decide +kernel
theorem split_small {z : Str} (h : z.length ≤ 10000) : z.length + 2 ≤ sizeLine := by
  have := sizeLine_eq
  omega
theorem le_line {z : Str} (h : z.length ≤ 10000) : z.length ≤ sizeLine := by
  have := sizeLine_eq
  omega
theorem spl_len (S : List Nat) : ∀ (l : List Nat) (k : Nat) (acc : List Nat), 1 ≤ (TL.spl S k acc l).length ∧ (TL.spl S k acc l).length ≤ l.length + 1
  | [], k, acc => by
    rw [TL.spl_nil]
    exact ⟨Nat.le_refl _, Nat.le_refl _⟩
  | c :: r, 0, acc => by
    cases h : TL.pre S (c :: r) with
    | true =>
      rw [TL.spl_hit h]
      have := spl_len S r (S.length - 1) []
      rw [List.length_cons, List.length_cons]
      omega
    | false =>
      rw [TL.spl_miss h]
      have := spl_len S r 0 (acc ++ [c])
      rw [List.length_cons]
      omega
  | c :: r, k + 1, acc => by
    have := spl_len S r k acc
    show 1 ≤ (TL.spl S k acc r).length ∧ (TL.spl S k acc r).length ≤ _
    rw [List.length_cons]
    omega
theorem split_len (x y : Str) (hy : tl y ≠ []) (hk : y.cps.all (· < 256) = true) : 1 ≤ (Txt.split x y).length ∧ (Txt.split x y).length ≤ x.length + 1 := by
  have h := congrArg List.length (TL.split_spl x y hy (TL.kind_ok hk))
  rw [List.length_map] at h
  rw [h, TL.len_tl]
  exact spl_len _ _ _ _
theorem spl_part_len (S : List Nat) : ∀ (l : List Nat) (k : Nat) (acc : List Nat), ∀ p ∈ TL.spl S k acc l, p.length ≤ acc.length + l.length
  | [], k, acc, p, hp => by
    rw [TL.spl_nil, List.mem_singleton] at hp
    rw [hp]
    exact Nat.le_add_right _ _
  | c :: r, 0, acc, p, hp => by
    cases h : TL.pre S (c :: r) with
    | true =>
      rw [TL.spl_hit h] at hp
      rcases List.mem_cons.mp hp with e | hp
      · rw [e]
        exact Nat.le_add_right _ _
      · have := spl_part_len S r (S.length - 1) [] p hp
        rw [List.length_cons]
        simp at this
        omega
    | false =>
      rw [TL.spl_miss h] at hp
      have := spl_part_len S r 0 (acc ++ [c]) p hp
      rw [List.length_append, List.length_singleton] at this
      rw [List.length_cons]
      omega
  | c :: r, k + 1, acc, p, hp => by
    have := spl_part_len S r k acc p hp
    rw [List.length_cons]
    omega
theorem split_part {x y w : Str} (hy : tl y ≠ []) (hk : y.cps.all (· < 256) = true) (hw : w ∈ Txt.split x y) : w.length ≤ x.length := by
  have h := TL.split_spl x y hy (TL.kind_ok hk)
  have hm : tl w ∈ TL.spl (tl y) 0 [] (tl x) := by
    rw [← h]
    exact List.mem_map.mpr ⟨w, hw, rfl⟩
  have := spl_part_len _ _ _ _ _ hm
  rw [TL.len_tl, TL.len_tl]
  simpa using this
theorem sp_ok : tl (" " : Str) = [32] := by decide +kernel
theorem nl_ok : tl ("\n" : Str) = [10] := by decide +kernel
theorem split_sp (x : Str) : 1 ≤ (Txt.split x " ").length ∧ (Txt.split x " ").length ≤ x.length + 1 := split_len x " " (by rw [sp_ok]; decide) (by decide +kernel)
theorem split_nl (x : Str) : 1 ≤ (Txt.split x "\n").length ∧ (Txt.split x "\n").length ≤ x.length + 1 := split_len x "\n" (by rw [nl_ok]; decide) (by decide +kernel)
abbrev badText (g : Gb) (k : Nat) (E : Addr → List Str → List D → Mem → Prop) (M : Mem) : Prop := E (ga g "BadText") ["at"] [natD k] M
def sp_read_hands (g : Gb) : DSp := fun ds M Q E => ∃ z, ds = [.str z] ∧ z.length ≤ 10000 ∧ (badH z = true → badText g 1 E M) ∧ (badH z = false → MsOk (valsOf (mksOf z)) ∧ Q (hndD g (valsOf (mksOf z))) M)
theorem ok_read_hands (T : Tb g) : Kn g "read_hands" 6 ["text"] (sp_read_hands g) := by
  refine T.k_read_hands fun f fd F => fn_def (N := ["text", "marks", "word"]) F ⟨rfl, rfl, rfl, by decide +kernel, rfl, by decide +kernel, by decide +kernel⟩ (by rintro _ _ _ _ ⟨_, rfl, _⟩; rfl) ?_
  rintro _ M Qd Ed cd ⟨z, rfl, hz, qE, q⟩
  refine sxs_cons ?_
  refine sx_if ?_
  refine tx_not ?_
  refine tx_val ?_
  refine ex_call (ok_is_text T) (Nat.le_of_ble_eq_true rfl) rfl ?_
  refine ax1 ?_
  refine ex_name (i := 0) rfl rfl rfl ?_
  refine ⟨_, rfl, _, true, rfl, rfl, ?_⟩
  refine v_bl ?_
  refine cnd_f rfl ?_
  refine sxs_nil ?_
  have hcut : (cutS z (some 6) none).length ≤ 10000 := Nat.le_trans (cutS_length _ _ _) hz
  have hsp := split_sp (cutS z (some 6) none)
  refine sxs_cons ?_
  refine sx_setLcP (i := 1) (hN := rfl) (hy := rfl) (hl := rfl) (ha := rfl) (own := [("word", 2)]) (by kernel_rfl) ?_
  refine ix_lst ?_
  refine ex_split ?_
  refine ex_slice ?_
  refine ex_name (i := 0) rfl rfl rfl ?_
  refine v_o_some ?_
  refine ex_len rfl T.f_len ?_
  refine T.x_HEAD rfl ?_
  refine v_len_str (by rw [hands_len]; decide) ?_
  rw [hands_len]
  refine ⟨_, rfl, ?_⟩
  refine v_o_none ?_
  refine v_sl_str (le_line hz) ?_
  refine ⟨_, rfl, ?_⟩
  refine ex_str ?_
  refine ⟨_, rfl, by decide +kernel, split_small hcut, ?_⟩
  refine ⟨_, rfl, ?_⟩
  refine pur_map (xs := Txt.split (cutS z (some 6) none) " ") (f := D.str) (h := fun w => optD (readN w 0 61)) (by omega) (fun _ _ => trivial) (fun w hx M' hM' => ?_) ?_
  · refine gw_name (i := 2) rfl rfl (by decide) ?_
    refine ⟨rfl, ?_⟩
    refine ex_call (ok_read_number T) (Nat.le_of_ble_eq_true rfl) rfl ?_
    refine ax2 ?_
    refine ex_name (i := 2) rfl rfl rfl ?_
    refine ex_add ?_
    refine T.x_MOST_MARKS rfl ?_
    refine ex_int ?_
    refine v_add_int ?_
    exact ⟨w, 61, rfl, by decide, rfl, rfl⟩
  have em : ((Txt.split (cutS z (some 6) none) " ").map fun w => optD (readN w 0 61)) = (mksOf z).map optD := by
    unfold mksOf
    rw [List.map_map]
    rfl
  rw [em]
  refine sxs_cons ?_
  refine sx_if ?_
  refine tx_w ?_
  have test : ∀ {c : Cz} {t : Expr} {R : Bool → Mem → Prop} {δ : Sl}, WT g c t δ M (fun k M' => k = badH z ∧ M' = M) → R (badH z) M → WT g c t δ M R := fun h r X F0 G F σ H a b d => wW_mono (h X F0 G F σ H a b d) fun _ _ q => PoT.imp (fun k M' hk => by rw [hk.1, hk.2]; exact r) q
  refine test ?_ ?_
  · unfold badH
    refine wt_or ?_
    refine tx_ne ?_
    refine ex_slice ?_
    refine ex_name (i := 0) rfl rfl rfl ?_
    refine v_o_none ?_
    refine v_o_some ?_
    refine ex_len rfl T.f_len ?_
    refine T.x_HEAD rfl ?_
    refine v_len_str (by rw [hands_len]; decide) ?_
    rw [hands_len]
    refine ⟨_, rfl, ?_⟩
    refine v_sl_str (le_line hz) ?_
    refine T.x_HEAD rfl ?_
    refine v_eq_str ?_
    refine v_bl ?_
    refine cnd (fun hb => ⟨?_, rfl⟩) fun hb => ?_
    · show true = (not (decide (cutS z none (some ((6 : Nat) : Int)) = "hands ")) || _)
      rw [hb]
      rfl
    have hb' : (!(decide (cutS z none (some 6) = "hands "))) = false := hb
    rw [hb', Bool.false_or]
    refine wt_or ?_
    refine tx_not ?_
    refine tx_ch (fun _ => op_le) (fun _ => op_le) ?_
    refine ex_int ?_
    refine ex_len rfl T.f_len ?_
    refine ex_name (i := 1) rfl rfl rfl ?_
    refine v_len_lst ?_
    rw [List.length_map]
    refine v_ch (fun hc => ?_) fun hc => ?_
    rotate_left
    · have hc' : decide (2 ≤ (mksOf z).length) = false := by simp at hc ⊢; omega
      refine cnd_t rfl ⟨?_, rfl⟩
      rw [hc']
      rfl
    have hc' : decide (2 ≤ (mksOf z).length) = true := by simp at hc ⊢; omega
    refine T.x_MOST_HANDS rfl ?_
    refine ⟨_, rfl, ?_⟩
    rw [hc', Bool.true_and]
    by_cases h8 : (mksOf z).length ≤ 8
    rotate_left
    · refine cnd_t (by simp; omega) ⟨?_, rfl⟩
      rw [decide_eq_false h8]
      rfl
    refine cnd_f (by simp; omega) ?_
    rw [decide_eq_true h8, Bool.not_true, Bool.false_or]
    refine wt_or ?_
    refine tx_in ?_
    refine ex_non ?_
    refine ex_name (i := 1) rfl rfl rfl ?_
    refine ⟨_, rfl, rfl, flat_opt _, ?_⟩
    rw [in_non]
    refine cnd (fun hb => ⟨by rw [hb]; rfl, rfl⟩) fun hb => ?_
    rw [hb, Bool.false_or]
    refine wt_or1 ?_
    refine tx_in ?_
    refine ex_int ?_
    refine ex_name (i := 1) rfl rfl rfl ?_
    refine ⟨_, rfl, rfl, flat_opt _, ?_⟩
    rw [in_zero]
    exact ⟨rfl, rfl⟩
  cases hb : badH z with
  | true =>
    refine sxs_one ?_
    refine T.rBadText _ _ _ _ _ _ _ _ _ (Nat.le_of_ble_eq_true rfl) rfl rfl (fun _ => rfl) (fun _ => rfl) ?_
    refine ax1 ?_
    refine ex_int ?_
    exact ⟨rfl, M, MSub.refl M, qE hb⟩
  | false =>
    obtain ⟨hm, q⟩ := q hb
    have hn : noneIn (mksOf z) = false := by
      unfold badH at hb
      simp only [Bool.or_eq_false_iff] at hb
      exact hb.2.2.1
    rw [vals_of hn]
    refine sxs_nil ?_
    refine sxs_one ?_
    refine sx_ret ?_
    refine EX.frz (ex_make (ok_Hands T) (Nat.le_of_ble_eq_true rfl) rfl ?_)
    refine ax1 ?_
    refine ex_name (i := 1) rfl rfl rfl ?_
    intro p hp
    refine ⟨p, _, rfl, hm, mup_same, rfl, ?_⟩
    rw [mup_mup]
    exact frz_ins hp (rt_of q)
/-- what read_store says of a text: an error's place, or marks and cells -/
def linesOf (z : Str) : List Str := Txt.split z "\n"
def cellsOf (l : Str) : List (Option Nat) := (Txt.split (cutS l (some 6) none) " ").map toldN
def storeOf (z : Str) : Nat ⊕ (List Nat × List Nat) :=
  if badH ((linesOf z).getD 0 Str.empty) = true then .inl 1
  else if (linesOf z).length < 2 ∨ Txt.startswith ((linesOf z).getD 1 Str.empty) "cells " = false then .inl 2
  else if noneIn (cellsOf ((linesOf z).getD 1 Str.empty)) = true ∨ 20 < (cellsOf ((linesOf z).getD 1 Str.empty)).length then .inl 2
  else if 2 < (linesOf z).length then .inl 3
  else .inr (valsOf (mksOf ((linesOf z).getD 0 Str.empty)), valsOf (cellsOf ((linesOf z).getD 1 Str.empty)))
def sp_read_store (g : Gb) : DSp := fun ds M Q E => ∃ d, ds = [d] ∧ ((∃ U, tyD M d U ∧ kitB U "str" = some false ∧ badText g 0 E M) ∨
  ∃ z, d = .str z ∧ z.length ≤ 10000 ∧ (∀ l ∈ linesOf z, l.length ≤ 10000) ∧ (badH ((linesOf z).getD 0 Str.empty) = false → MsOk (valsOf (mksOf ((linesOf z).getD 0 Str.empty)))) ∧
    ((∃ k, storeOf z = .inl k ∧ badText g k E M) ∨ ∃ ms cs, storeOf z = .inr (ms, cs) ∧ CellsOk cs ∧ (TellOk ms → ∀ p, M p = none → Q (.ref p) (mup M p (storeO g ms cs (noLogs ms.length) (noLogs ms.length)))) ∧ (¬ TellOk ms → badTell g ms E M)))
theorem lines_at {z : Str} {i : Nat} (h : i < (linesOf z).length) : atI ((linesOf z).map D.str) (i : Int) = some (.str ((linesOf z).getD i Str.empty)) := atI_nat (by rw [List.getElem?_map, getD_at h]; rfl)
theorem ok_read_store (T : Tb g) : Kn g "read_store" 10 ["text"] (sp_read_store g) := by
  refine T.k_read_store fun f fd F => fn_def (N := ["text", "lines", "hands", "cells", "word"]) F ⟨rfl, rfl, rfl, by decide +kernel, rfl, by decide +kernel, by decide +kernel⟩ (by rintro _ _ _ _ ⟨_, rfl, _⟩; rfl) ?_
  rintro _ M Qd Ed cd ⟨d, rfl, h⟩
  refine sxs_cons ?_
  refine sx_if ?_
  refine tx_not ?_
  refine tx_val ?_
  refine ex_call (ok_is_text T) (Nat.le_of_ble_eq_true rfl) rfl ?_
  refine ax1 ?_
  refine ex_name (i := 0) rfl rfl rfl ?_
  rcases h with ⟨U, hU, hk, qE⟩ | ⟨z, rfl, hz, hls, hmo, h⟩
  · refine ⟨_, rfl, U, false, hU, hk, ?_⟩
    refine v_bl ?_
    refine cnd_t rfl ?_
    refine sxs_one ?_
    refine T.rBadText _ _ _ _ _ _ _ _ _ (Nat.le_of_ble_eq_true rfl) rfl rfl (fun _ => rfl) (fun _ => rfl) ?_
    refine ax1 ?_
    refine ex_int ?_
    exact ⟨rfl, M, MSub.refl M, qE⟩
  refine ⟨_, rfl, _, true, rfl, rfl, ?_⟩
  refine v_bl ?_
  refine cnd_f rfl ?_
  refine sxs_nil ?_
  have hl1 := split_nl z
  refine sxs_cons ?_
  refine sx_set (i := 1) rfl rfl ?_
  refine ex_split ?_
  refine ex_name (i := 0) rfl rfl rfl ?_
  refine ⟨_, rfl, ?_⟩
  refine ex_str ?_
  refine ⟨_, rfl, by decide +kernel, split_small hz, ?_⟩
  refine sxs_cons ?_
  refine sx_set (i := 2) rfl rfl ?_
  refine ex_call (ok_read_hands T) (Nat.le_of_ble_eq_true rfl) rfl ?_
  refine ax1 ?_
  refine ex_ixa ?_
  refine ex_name (i := 1) rfl rfl rfl ?_
  refine ex_int ?_
  refine v_ix_lst (lines_at (i := 0) (show 0 < (linesOf z).length from hl1.1)) ?_
  have hm0 : (linesOf z).getD 0 Str.empty ∈ linesOf z := List.mem_of_getElem? (getD_at (show 0 < (linesOf z).length from hl1.1))
  refine ⟨_, rfl, hls _ hm0, fun hb => ?_, fun hb => ⟨hmo hb, ?_⟩⟩
  · rcases h with ⟨k, hk, qE⟩ | ⟨ms, cs, hk, _⟩
    · unfold storeOf at hk
      rw [if_pos hb] at hk
      injection hk with hk
      subst hk
      exact ⟨M, MSub.refl M, qE⟩
    · unfold storeOf at hk
      rw [if_pos hb] at hk
      cases hk
  have hb' : ¬ badH ((linesOf z).getD 0 Str.empty) = true := by rw [hb]; decide
  unfold storeOf at h
  rw [if_neg hb'] at h
  refine sxs_cons ?_
  refine sx_if ?_
  refine tx_w ?_
  have h2 : ((linesOf z).length < 2 ∨ Txt.startswith ((linesOf z).getD 1 Str.empty) "cells " = false) → SXs g (bodyC ["text", "lines", "hands", "cells", "word"] (defScope (topS 71)) 9 Ed "read_store" cd) [.Raise (some (.Call (.Name "BadText" ⟨306, 14, 306, 21⟩) [.Constant (.int 2) 0 ⟨306, 22, 306, 23⟩] [] ⟨306, 14, 306, 24⟩)) none ⟨306, 8, 306, 24⟩] [some (.str z), some (.lst ((linesOf z).map D.str)), some (hndD g (valsOf (mksOf ((linesOf z).getD 0 Str.empty)))), none, none] M
      { bodyO Qd with nx := fun δ1 M1 => SXs g (bodyC ["text", "lines", "hands", "cells", "word"] (defScope (topS 71)) 9 Ed "read_store" cd) ((defBody (topS 71)).drop 4) δ1 M1 (bodyO Qd) } := fun hn => by
    rw [if_pos hn] at h
    refine sxs_one ?_
    refine T.rBadText _ _ _ _ _ _ _ _ _ (Nat.le_of_ble_eq_true rfl) rfl rfl (fun _ => rfl) (fun _ => rfl) ?_
    refine ax1 ?_
    refine ex_int ?_
    rcases h with ⟨k, hk, qE⟩ | ⟨ms, cs, hk, _⟩
    · injection hk with hk
      subst hk
      exact ⟨rfl, M, MSub.refl M, qE⟩
    · cases hk
  refine wt_or ?_
  refine tx_lt ?_
  refine ex_len rfl T.f_len ?_
  refine ex_name (i := 1) rfl rfl rfl ?_
  refine v_len_lst ?_
  rw [show ((Txt.split z "\n").map D.str).length = (linesOf z).length from List.length_map ..]
  refine ex_int ?_
  refine v_lt_nat (n := 2) ?_
  refine v_bl ?_
  refine cnd_p (fun hlt => h2 (.inl hlt)) fun hlt => ?_
  refine wt_or1 ?_
  refine tx_not ?_
  refine tx_val ?_
  refine ex_starts ?_
  refine ex_ixa ?_
  refine ex_name (i := 1) rfl rfl rfl ?_
  refine ex_int ?_
  refine v_ix_lst (lines_at (i := 1) (by omega)) ?_
  refine ⟨_, rfl, ?_⟩
  refine T.x_CELLS rfl ?_
  refine ⟨_, rfl, ?_⟩
  refine v_bl ?_
  cases hst : Txt.startswith ((linesOf z).getD 1 Str.empty) "cells " with
  | false =>
    refine cnd_t rfl ?_
    exact h2 (.inr hst)
  | true =>
  refine cnd_f rfl ?_
  refine sxs_nil ?_
  clear h2
  rw [if_neg (show ¬ ((linesOf z).length < 2 ∨ Txt.startswith ((linesOf z).getD 1 Str.empty) "cells " = false) from fun x => x.elim hlt fun y => by rw [hst] at y; cases y)] at h
  have hm1 : (linesOf z).getD 1 Str.empty ∈ linesOf z := List.mem_of_getElem? (getD_at (by omega))
  have hl1' := hls _ hm1
  generalize hL : (linesOf z).getD 1 Str.empty = L at h hl1' hst
  have hcut : (cutS L (some 6) none).length ≤ 10000 := Nat.le_trans (cutS_length _ _ _) hl1'
  have hsp := split_sp (cutS L (some 6) none)
  refine sxs_cons ?_
  refine sx_setLcP (i := 3) (hN := rfl) (hy := rfl) (hl := rfl) (ha := rfl) (own := [("word", 4)]) (by kernel_rfl) ?_
  refine ix_lst ?_
  refine ex_split ?_
  refine ex_slice ?_
  refine ex_ixa ?_
  refine ex_name (i := 1) rfl rfl rfl ?_
  refine ex_int ?_
  refine v_ix_lst (lines_at (i := 1) (by omega)) ?_
  rw [hL]
  refine v_o_some ?_
  refine ex_len rfl T.f_len ?_
  refine T.x_CELLS rfl ?_
  refine v_len_str (by rw [cells_len]; decide) ?_
  rw [cells_len]
  refine ⟨_, rfl, ?_⟩
  refine v_o_none ?_
  refine v_sl_str (le_line hl1') ?_
  refine ⟨_, rfl, ?_⟩
  refine ex_str ?_
  refine ⟨_, rfl, by decide +kernel, split_small hcut, ?_⟩
  refine ⟨_, rfl, ?_⟩
  have hwl : ∀ w ∈ Txt.split (cutS L (some 6) none) " ", w.length ≤ sizeLine := fun w hw => le_line (Nat.le_trans (split_part (by rw [sp_ok]; decide) (by decide +kernel) hw) hcut)
  refine pur_map (xs := Txt.split (cutS L (some 6) none) " ") (f := D.str) (h := fun w => optD (toldN w)) (by omega) (fun _ _ => trivial) (fun w hx M' hM' => ?_) ?_
  · refine gw_name (i := 4) rfl rfl (by decide) ?_
    refine ⟨rfl, ?_⟩
    refine ex_call (ok_told_number T) (Nat.le_of_ble_eq_true rfl) rfl ?_
    refine ax1 ?_
    refine ex_name (i := 4) rfl rfl rfl ?_
    exact ⟨w, rfl, hwl w hx, rfl, rfl⟩
  have em : ((Txt.split (cutS L (some 6) none) " ").map fun w => optD (toldN w)) = (cellsOf L).map optD := by
    unfold cellsOf
    rw [List.map_map]
    rfl
  rw [em]
  refine sxs_cons ?_
  refine sx_if ?_
  refine tx_w ?_
  have h3 : (noneIn (cellsOf L) = true ∨ 20 < (cellsOf L).length) → SXs g (bodyC ["text", "lines", "hands", "cells", "word"] (defScope (topS 71)) 9 Ed "read_store" cd) [.Raise (some (.Call (.Name "BadText" ⟨309, 14, 309, 21⟩) [.Constant (.int 2) 0 ⟨309, 22, 309, 23⟩] [] ⟨309, 14, 309, 24⟩)) none ⟨309, 8, 309, 24⟩] [some (.str z), some (.lst ((linesOf z).map D.str)), some (hndD g (valsOf (mksOf ((linesOf z).getD 0 Str.empty)))), some (.lst ((cellsOf L).map optD)), none] M
      { bodyO Qd with nx := fun δ1 M1 => SXs g (bodyC ["text", "lines", "hands", "cells", "word"] (defScope (topS 71)) 9 Ed "read_store" cd) ((defBody (topS 71)).drop 6) δ1 M1 (bodyO Qd) } := fun hn => by
    rw [if_pos hn] at h
    refine sxs_one ?_
    refine T.rBadText _ _ _ _ _ _ _ _ _ (Nat.le_of_ble_eq_true rfl) rfl rfl (fun _ => rfl) (fun _ => rfl) ?_
    refine ax1 ?_
    refine ex_int ?_
    rcases h with ⟨k, hk, qE⟩ | ⟨ms, cs, hk, _⟩
    · injection hk with hk
      subst hk
      exact ⟨rfl, M, MSub.refl M, qE⟩
    · cases hk
  refine wt_or ?_
  refine tx_in ?_
  refine ex_non ?_
  refine ex_name (i := 3) rfl rfl rfl ?_
  refine ⟨_, rfl, rfl, flat_opt _, ?_⟩
  rw [in_non]
  cases hni : noneIn (cellsOf L) with
  | true =>
    refine cnd_t rfl ?_
    exact h3 (.inl hni)
  | false =>
  refine cnd_f rfl ?_
  refine wt_or1 ?_
  refine tx_gt ?_
  refine ex_len rfl T.f_len ?_
  refine ex_name (i := 3) rfl rfl rfl ?_
  refine v_len_lst ?_
  rw [List.length_map]
  refine ex_int ?_
  refine v_gt_nat (n := 20) ?_
  refine v_bl ?_
  refine cnd_p (fun hlt => h3 (.inr hlt)) fun hlt20 => ?_
  clear h3
  refine sxs_nil ?_
  rw [if_neg (show ¬ (noneIn (cellsOf L) = true ∨ 20 < (cellsOf L).length) from fun x => x.elim (fun y => by rw [hni] at y; cases y) hlt20)] at h
  refine sxs_cons ?_
  refine sx_if ?_
  refine tx_gt ?_
  refine ex_len rfl T.f_len ?_
  refine ex_name (i := 1) rfl rfl rfl ?_
  refine v_len_lst ?_
  rw [show ((Txt.split z "\n").map D.str).length = (linesOf z).length from List.length_map ..]
  refine ex_int ?_
  refine v_gt_nat (n := 2) ?_
  refine v_bl ?_
  refine cnd_p (fun h22 => ?_) fun h22 => ?_
  · rw [if_pos h22] at h
    refine sxs_one ?_
    refine T.rBadText _ _ _ _ _ _ _ _ _ (Nat.le_of_ble_eq_true rfl) rfl rfl (fun _ => rfl) (fun _ => rfl) ?_
    refine ax1 ?_
    refine ex_int ?_
    rcases h with ⟨k, hk, qE⟩ | ⟨ms, cs, hk, _⟩
    · injection hk with hk
      subst hk
      exact ⟨rfl, M, MSub.refl M, qE⟩
    · cases hk
  rw [if_neg h22] at h
  refine sxs_nil ?_
  rcases h with ⟨k, hk, _⟩ | ⟨ms, cs, hk, hco, q, qE⟩
  · cases hk
  injection hk with hk
  injection hk with hk1 hk2
  refine sxs_one ?_
  refine sx_ret ?_
  refine ex_make (ok_Store T) (Nat.le_of_ble_eq_true rfl) rfl ?_
  refine ax2 ?_
  refine ex_name (i := 2) rfl rfl rfl ?_
  refine ex_name (i := 3) rfl rfl rfl ?_
  intro p hp
  rw [vals_of hni, hk1, hk2]
  refine ⟨p, ms, _, cs, rfl, .inl rfl, by rw [← hk1]; exact hmo hb, hco, mup_same, fun ht => ⟨rfl, ?_⟩, fun hn => ⟨M, MSub.new hp, qE hn⟩⟩
  rw [mup_mup]
  exact rt_of (q ht p hp)
abbrev deskN : List Str := ["store"]
abbrev deskO (g : Gb) (s : Addr) : MO := .ins (ga g "Desk") deskN [.ref s]
def sp_Desk (g : Gb) : DSp := fun ds M Q E => ∃ p d, ds = [.ref p, d] ∧ M p = some (.ins (ga g "Desk") [] []) ∧ ((∃ U, tyD M d U ∧ kitB U "str" = some false ∧ badText g 0 E M) ∨
  ∃ z, d = .str z ∧ z.length ≤ 10000 ∧ (∀ l ∈ linesOf z, l.length ≤ 10000) ∧ (badH ((linesOf z).getD 0 Str.empty) = false → MsOk (valsOf (mksOf ((linesOf z).getD 0 Str.empty)))) ∧
    ((∃ k, storeOf z = .inl k ∧ badText g k E M) ∨ ∃ ms cs, storeOf z = .inr (ms, cs) ∧ CellsOk cs ∧ (TellOk ms → ∀ s, M s = none → Q .non (mup (mup M s (storeO g ms cs (noLogs ms.length) (noLogs ms.length))) p (deskO g s))) ∧ (¬ TellOk ms → badTell g ms E M)))
theorem fok_Desk (T : Tb g) {f : Addr} {fd : FuncData} (F : Fun g.K "__init__" "Desk.__init__" (inClass (topS 72) 0) f fd) : Fok g 11 f fd ["self", "text"] (sp_Desk g) := by
  refine fn_def (N := ["self", "text"]) F ⟨rfl, rfl, rfl, by decide +kernel, rfl, by decide +kernel, by decide +kernel⟩ (by rintro _ _ _ _ ⟨_, _, rfl, _⟩; rfl) ?_
  rintro _ M Qd Ed cd ⟨p, d, rfl, hM, h⟩
  refine sxs_one ?_
  refine sx_fld T.cls_Desk T.no_Desk_store ?_
  refine ex_call (ok_read_store T) (Nat.le_of_ble_eq_true rfl) rfl ?_
  refine ax1 ?_
  refine ex_name (i := 1) rfl rfl rfl ?_
  refine ⟨d, rfl, ?_⟩
  rcases h with ⟨U, h1, h2, qE⟩ | ⟨z, rfl, hz, hls, hmo, h⟩
  · exact .inl ⟨U, h1, h2, M, MSub.refl M, qE⟩
  refine .inr ⟨z, rfl, hz, hls, hmo, ?_⟩
  rcases h with ⟨k, hk, qE⟩ | ⟨ms, cs, hk, hco, q, qE⟩
  · exact .inl ⟨k, hk, M, MSub.refl M, qE⟩
  refine .inr ⟨ms, cs, hk, hco, fun ht s hs => ?_, fun hn => ⟨M, MSub.refl M, qE hn⟩⟩
  refine ex_name (i := 0) rfl rfl rfl ?_
  refine ⟨_, _, _, rfl, (mup_ne (ne_none hM hs)).trans hM, by decide, ?_⟩
  exact nx_of (q ht s hs)
theorem ok_Desk (T : Tb g) : Kc g "Desk" (ga g "Desk") 11 ["self", "text"] (sp_Desk g) := T.k_Desk___init__ fun f fd F => fok_Desk T F
end DL

set_option Elab.async false
set_option linter.all false
set_option maxRecDepth 100000
set_option maxHeartbeats 1000000
/-! # The program's defs: say_plain, say_told -/
namespace DL
open PySem PySem.Spec PyProof.Rows L2
open Evl (Ex)
open TL (tl numL)
variable {g : Gb}
def dl (d : Deed) : List Nat := [d.1, d.2.1, d.2.2]
def el (e : Ent) : List Nat := [e.1, e.2.1, e.2.2.1, e.2.2.2]
def Small (l : List Nat) : Prop := ∀ n ∈ l, n < 10 ^ 10
/-- a desk at p with a store at s -/
structure DeskOk (g : Gb) (M : Mem) (p s : Addr) (ms cs : List Nat) (dn un : List (List Ent)) : Prop where
  hp : M p = some (deskO g s)
  hs : M s = some (storeO g ms cs dn un)
  so : StOk ms cs dn un
  c1 : Small cs
  d1 : ∀ l ∈ dn, ∀ e ∈ l, Small (el e)
  u1 : ∀ l ∈ un, ∀ e ∈ l, Small (el e)
theorem stretch_lt : ∀ {az : List (Nat × Nat)} {k p j : Nat}, stretch k az p = some j → j < k + az.length
  | [], _, _, _, h => by cases h
  | z :: r, k, p, j, h => by
    have h : (if z.1 ≤ p ∧ p < z.2 then some k else stretch (k + 1) r p) = some j := h
    rw [List.length_cons]
    split at h
    · injection h with h
      omega
    · have := stretch_lt h
      omega
theorem handBehind_lt {ms : List Nat} {ls : List (List Ent)} {h : Nat} (e : handBehind ms ls = some h) : h < ms.length := by
  unfold handBehind at e
  split at e
  · have := stretch_lt e
    unfold arcs widths at this
    rw [laid_len, List.length_map] at this
    omega
  · cases e
theorem handT_len {o : Option Nat} (h : ∀ k, o = some k → k < 10 ^ 10) : (handT o).length ≤ 10 := by
  cases o with
  | none =>
    show ("-" : Str).length ≤ 10
    decide +kernel
  | some k => exact strN_len (by decide) (h k rfl)
theorem str_len_app (a b : Str) : (a ++ b).length = a.length + b.length := by
  rw [TL.len_tl, TL.len_tl, TL.len_tl, TL.tl_append, List.length_append]
/-- what a plain word asks, what it does -/
def PlainSp (g : Gb) (p s : Addr) (ms cs : List Nat) (dn un : List (List Ent)) (z : Str) (M : Mem) (Q : D → Mem → Prop) : Prop :=
  (z = "undo" ∧ ((handBehind ms dn = none ∧ Q (.str "-") M) ∨ ∃ h l, ∃ e : Ent, handBehind ms dn = some h ∧ h < ms.length ∧ dn[h]? = some (l ++ [e]) ∧ e.2.1 < cs.length ∧ Q (.str (strN h)) (mup M s (storeO g ms (cs.set e.2.1 e.2.2.1) (dn.modify h List.dropLast) (enter ms un h e.2))))) ∨
  (z = "redo" ∧ ((handBehind ms un = none ∧ Q (.str "-") M) ∨ ∃ h l, ∃ e : Ent, handBehind ms un = some h ∧ h < ms.length ∧ un[h]? = some (l ++ [e]) ∧ e.2.1 < cs.length ∧ Q (.str (strN h)) (mup M s (storeO g ms (cs.set e.2.1 e.2.2.2) (enter ms dn h e.2) (un.modify h List.dropLast))))) ∨
  (z = "who" ∧ Q (.str (handT (handBehind ms dn) ++ " " ++ handT (handBehind ms un))) M) ∨
  (z = "cells" ∧ Q (.str (numsT cs)) M) ∨
  ∃ first deeds left, ToldOk ms cs dn un first deeds left ∧ Small first ∧ (∀ d ∈ deeds, Small (dl d)) ∧ (∀ d ∈ left, Small (dl d)) ∧ deeds.length ≤ 1000 ∧ left.length ≤ 1000 ∧
    ((z = "anew" ∧ ∀ s2, M s2 = none → Q (.str "ok") (mup (mup M s2 (storeO g ms cs dn un)) p (deskO g s2))) ∨
    (z = "first" ∧ Q (.str (numsT first)) M) ∨ (z = "deeds" ∧ Q (.str (rowsT (deeds.map dl))) M) ∨ (z = "left" ∧ Q (.str (rowsT (left.map dl))) M))
def sp_say_plain (g : Gb) : DSp := fun ds M Q _ => ∃ p s ms cs dn un z, ds = [.ref p, .str z] ∧ DeskOk g M p s ms cs dn un ∧ PlainSp g p s ms cs dn un z M Q
theorem rows_deeds (l : List Deed) : deedsD l = .tup ((l.map dl).map fun r => .tup (natsD r)) := by
  unfold deedsD
  rw [List.map_map]
  rfl
theorem rows_ents (l : List Ent) : logD l = .tup ((l.map el).map fun r => .tup (natsD r)) := by
  unfold logD
  rw [List.map_map]
  rfl
theorem word_ne {a b : Str} (h : decide (a = b) = false) : ¬ a = b := of_decide_eq_false h
theorem ok_Desk_say_plain (T : Tb g) : Km g (ga g "Desk") "say_plain" 11 ["self", "word"] (sp_say_plain g) := by
  refine T.k_Desk_say_plain fun f fd F => fn_def (N := ["self", "word", "first", "deeds", "left"]) F ⟨rfl, rfl, rfl, by decide +kernel, rfl, by decide +kernel, by decide +kernel⟩ (by rintro _ _ _ _ ⟨_, _, _, _, _, _, _, rfl, _⟩; rfl) ?_
  rintro _ M Qd Ed cd ⟨p, s, ms, cs, dn, un, z, rfl, ok, h⟩
  have hp := ok.hp
  have hs := ok.hs
  have hm8 := ok.so.mo.hi
  have hcs := ok.so.co
  have hbd : ∀ {ls : List (List Ent)} h, handBehind ms ls = some h → h < 10 ^ 10 := fun h e => by have := handBehind_lt e; omega
  refine sxs_cons ?_
  refine sx_if ?_
  refine tx_eq ?_
  refine ex_name (i := 1) rfl rfl rfl ?_
  refine ex_str ?_
  refine v_eq_str ?_
  refine v_bl ?_
  rcases h with ⟨rfl, h⟩ | h
  · refine cnd_t (by decide +kernel) ?_
    refine sxs_one ?_
    refine sx_ret ?_
    refine ex_call (ok_hand_text T) (Nat.le_of_ble_eq_true rfl) rfl ?_
    refine ax1 ?_
    refine ex_meth0 (ok_Store_undo_last T) T.cls_Store (Nat.le_of_ble_eq_true rfl) ?_
    refine ex_fld T.cls_Desk T.no_Desk_store ?_
    refine ex_name (i := 0) rfl rfl rfl ?_
    refine ⟨_, _, _, hp, rfl, ?_⟩
    refine ⟨_, _, hs, by decide, ?_⟩
    refine ⟨s, ms, cs, dn, un, rfl, ok.so, hs, ?_⟩
    rcases h with ⟨e0, q⟩ | ⟨h, l, e, e0, hh, hl, he, q⟩
    · exact .inl ⟨e0, none, rfl, (fun _ x => nomatch x), rt_of q⟩
    · exact .inr ⟨h, l, e, e0, hh, hl, he, some h, rfl, (fun k x => by injection x with x; omega), rt_of q⟩
  have z1 : z ≠ "undo" := by
    intro e
    subst e
    rcases h with ⟨h, _⟩ | ⟨h, _⟩ | ⟨h, _⟩ | ⟨_, _, _, _, _, _, _, _, _, ⟨h, _⟩ | ⟨h, _⟩ | ⟨h, _⟩ | ⟨h, _⟩⟩ <;> exact absurd h (by decide +kernel)
  refine cnd_pf z1 ?_
  refine sxs_nil ?_
  refine sxs_cons ?_
  refine sx_if ?_
  refine tx_eq ?_
  refine ex_name (i := 1) rfl rfl rfl ?_
  refine ex_str ?_
  refine v_eq_str ?_
  refine v_bl ?_
  rcases h with ⟨rfl, h⟩ | h
  · refine cnd_t (by decide +kernel) ?_
    refine sxs_one ?_
    refine sx_ret ?_
    refine ex_call (ok_hand_text T) (Nat.le_of_ble_eq_true rfl) rfl ?_
    refine ax1 ?_
    refine ex_meth0 (ok_Store_redo_next T) T.cls_Store (Nat.le_of_ble_eq_true rfl) ?_
    refine ex_fld T.cls_Desk T.no_Desk_store ?_
    refine ex_name (i := 0) rfl rfl rfl ?_
    refine ⟨_, _, _, hp, rfl, ?_⟩
    refine ⟨_, _, hs, by decide, ?_⟩
    refine ⟨s, ms, cs, dn, un, rfl, ok.so, hs, ?_⟩
    rcases h with ⟨e0, q⟩ | ⟨h, l, e, e0, hh, hl, he, q⟩
    · exact .inl ⟨e0, none, rfl, (fun _ x => nomatch x), rt_of q⟩
    · exact .inr ⟨h, l, e, e0, hh, hl, he, some h, rfl, (fun k x => by injection x with x; omega), rt_of q⟩
  have z2 : z ≠ "redo" := by
    intro e
    subst e
    rcases h with ⟨h, _⟩ | ⟨h, _⟩ | ⟨_, _, _, _, _, _, _, _, _, ⟨h, _⟩ | ⟨h, _⟩ | ⟨h, _⟩ | ⟨h, _⟩⟩ <;> exact absurd h (by decide +kernel)
  refine cnd_pf z2 ?_
  refine sxs_nil ?_
  refine sxs_cons ?_
  refine sx_if ?_
  refine tx_eq ?_
  refine ex_name (i := 1) rfl rfl rfl ?_
  refine ex_str ?_
  refine v_eq_str ?_
  refine v_bl ?_
  rcases h with ⟨rfl, q⟩ | h
  · refine cnd_t (by decide +kernel) ?_
    have l1 := handT_len (o := handBehind ms dn) fun k e => hbd k e
    have l2 := handT_len (o := handBehind ms un) fun k e => hbd k e
    have l0 : (" " : Str).length = 1 := by decide +kernel
    have hzl := sizeLine_eq
    refine sxs_one ?_
    refine sx_ret ?_
    refine ex_add ?_
    refine ex_add ?_
    refine ex_call (ok_hand_text T) (Nat.le_of_ble_eq_true rfl) rfl ?_
    refine ax1 ?_
    refine ex_meth0 (ok_Store_who_undoes T) T.cls_Store (Nat.le_of_ble_eq_true rfl) ?_
    refine ex_fld T.cls_Desk T.no_Desk_store ?_
    refine ex_name (i := 0) rfl rfl rfl ?_
    refine ⟨_, _, _, hp, rfl, ?_⟩
    refine ⟨_, _, hs, by decide, ?_⟩
    refine ⟨s, ms, cs, dn, un, rfl, ok.so, hs, ?_⟩
    refine ⟨_, rfl, fun k e => hbd k e, ?_⟩
    refine ex_str ?_
    refine v_add_str (by omega) ?_
    refine ex_call (ok_hand_text T) (Nat.le_of_ble_eq_true rfl) rfl ?_
    refine ax1 ?_
    refine ex_meth0 (ok_Store_who_redoes T) T.cls_Store (Nat.le_of_ble_eq_true rfl) ?_
    refine ex_fld T.cls_Desk T.no_Desk_store ?_
    refine ex_name (i := 0) rfl rfl rfl ?_
    refine ⟨_, _, _, hp, rfl, ?_⟩
    refine ⟨_, _, hs, by decide, ?_⟩
    refine ⟨s, ms, cs, dn, un, rfl, ok.so, hs, ?_⟩
    refine ⟨_, rfl, fun k e => hbd k e, ?_⟩
    refine v_add_str (by rw [str_len_app]; omega) ?_
    exact rt_of q
  have z3 : z ≠ "who" := by
    intro e
    subst e
    rcases h with ⟨h, _⟩ | ⟨_, _, _, _, _, _, _, _, _, ⟨h, _⟩ | ⟨h, _⟩ | ⟨h, _⟩ | ⟨h, _⟩⟩ <;> exact absurd h (by decide +kernel)
  refine cnd_pf z3 ?_
  refine sxs_nil ?_
  refine sxs_cons ?_
  refine sx_if ?_
  refine tx_eq ?_
  refine ex_name (i := 1) rfl rfl rfl ?_
  refine ex_str ?_
  refine v_eq_str ?_
  refine v_bl ?_
  rcases h with ⟨rfl, q⟩ | h
  · refine cnd_t (by decide +kernel) ?_
    refine sxs_one ?_
    refine sx_ret ?_
    refine ex_call (ok_numbers_text T) (Nat.le_of_ble_eq_true rfl) rfl ?_
    refine ax1 ?_
    refine ex_fld T.cls_Store T.no_Store_cells ?_
    refine ex_fld T.cls_Desk T.no_Desk_store ?_
    refine ex_name (i := 0) rfl rfl rfl ?_
    refine ⟨_, _, _, hp, rfl, ?_⟩
    refine ⟨_, _, _, hs, rfl, ?_⟩
    exact ⟨cs, rfl, by omega, ok.c1, rt_of q⟩
  obtain ⟨first, deeds, left, tk, f1, f2, f3, f4, f5, h⟩ := h
  have z4 : z ≠ "cells" := by
    intro e
    subst e
    rcases h with ⟨h, _⟩ | ⟨h, _⟩ | ⟨h, _⟩ | ⟨h, _⟩ <;> exact absurd h (by decide +kernel)
  refine cnd_pf z4 ?_
  refine sxs_nil ?_
  refine sxs_cons ?_
  refine sx_if ?_
  refine tx_eq ?_
  refine ex_name (i := 1) rfl rfl rfl ?_
  refine ex_str ?_
  refine v_eq_str ?_
  refine v_bl ?_
  rcases h with ⟨rfl, q⟩ | h
  · refine cnd_t (by decide +kernel) ?_
    refine sxs_cons ?_
    refine sx_fld T.cls_Desk T.no_Desk_store ?_
    refine ex_call (ok_store_of T) (Nat.le_of_ble_eq_true rfl) rfl ?_
    refine ax2 ?_
    refine ex_fld T.cls_Store T.no_Store_hands ?_
    refine ex_fld T.cls_Desk T.no_Desk_store ?_
    refine ex_name (i := 0) rfl rfl rfl ?_
    refine ⟨_, _, _, hp, rfl, ?_⟩
    refine ⟨_, _, _, hs, rfl, ?_⟩
    refine ex_meth0 (ok_Store_sheet T) T.cls_Store (Nat.le_of_ble_eq_true rfl) ?_
    refine ex_fld T.cls_Desk T.no_Desk_store ?_
    refine ex_name (i := 0) rfl rfl rfl ?_
    refine ⟨_, _, _, hp, rfl, ?_⟩
    refine ⟨_, _, hs, by decide, ?_⟩
    refine ⟨s, ms, cs, dn, un, rfl, hs, ?_⟩
    refine ⟨ms, cs, dn, un, first, deeds, left, rfl, tk, fun s2 hs2 => ?_⟩
    refine ex_name (i := 0) rfl rfl rfl ?_
    refine ⟨_, _, _, rfl, (mup_ne (ne_none hp hs2)).trans hp, by decide, ?_⟩
    refine sxs_one ?_
    refine sx_ret ?_
    refine ex_str ?_
    exact rt_of (q s2 hs2)
  have z5 : z ≠ "anew" := by
    intro e
    subst e
    rcases h with ⟨h, _⟩ | ⟨h, _⟩ | ⟨h, _⟩ <;> exact absurd h (by decide +kernel)
  refine cnd_pf z5 ?_
  refine sxs_nil ?_
  refine sxs_cons ?_
  refine sx_asg ?_
  refine ex_call (ok_deeds_of T) (Nat.le_of_ble_eq_true rfl) rfl ?_
  refine ax2 ?_
  refine ex_fld T.cls_Store T.no_Store_hands ?_
  refine ex_fld T.cls_Desk T.no_Desk_store ?_
  refine ex_name (i := 0) rfl rfl rfl ?_
  refine ⟨_, _, _, hp, rfl, ?_⟩
  refine ⟨_, _, _, hs, rfl, ?_⟩
  refine ex_meth0 (ok_Store_sheet T) T.cls_Store (Nat.le_of_ble_eq_true rfl) ?_
  refine ex_fld T.cls_Desk T.no_Desk_store ?_
  refine ex_name (i := 0) rfl rfl rfl ?_
  refine ⟨_, _, _, hp, rfl, ?_⟩
  refine ⟨_, _, hs, by decide, ?_⟩
  refine ⟨s, ms, cs, dn, un, rfl, hs, ?_⟩
  refine ⟨ms, cs, dn, un, first, deeds, left, rfl, tk, ?_⟩
  refine gx_tup (n := 3) ⟨_, rfl, rfl, ?_⟩
  refine gxs_cons ?_
  refine gx_name (i := 2) rfl rfl ?_
  refine gxs_cons ?_
  refine gx_name (i := 3) rfl rfl ?_
  refine gxs_cons ?_
  refine gx_name (i := 4) rfl rfl ?_
  refine gxs_nil ?_
  refine sxs_cons ?_
  refine sx_if ?_
  refine tx_eq ?_
  refine ex_name (i := 1) rfl rfl rfl ?_
  refine ex_str ?_
  refine v_eq_str ?_
  refine v_bl ?_
  rcases h with ⟨rfl, q⟩ | h
  · refine cnd_t (by decide +kernel) ?_
    refine sxs_one ?_
    refine sx_ret ?_
    refine ex_call (ok_numbers_text T) (Nat.le_of_ble_eq_true rfl) rfl ?_
    refine ax1 ?_
    refine ex_name (i := 2) rfl rfl rfl ?_
    exact ⟨first, rfl, by have := tk.f1.hi; omega, f1, rt_of q⟩
  have z6 : z ≠ "first" := by
    intro e
    subst e
    rcases h with ⟨h, _⟩ | ⟨h, _⟩ <;> exact absurd h (by decide +kernel)
  refine cnd_pf z6 ?_
  refine sxs_nil ?_
  refine sxs_one ?_
  refine sx_ret ?_
  refine ex_call (ok_rows_text T) (Nat.le_of_ble_eq_true rfl) rfl ?_
  refine ax1 ?_
  refine ex_if ?_
  refine tx_eq ?_
  refine ex_name (i := 1) rfl rfl rfl ?_
  refine ex_str ?_
  refine v_eq_str ?_
  refine v_bl ?_
  have rowok : ∀ l : List Deed, (∀ d ∈ l, Small (dl d)) → ∀ r ∈ l.map dl, r.length ≤ 4 ∧ ∀ n ∈ r, n < 10 ^ 10 := fun l hl r hr => by
    obtain ⟨d, hd, rfl⟩ := List.mem_map.mp hr
    exact ⟨by show 3 ≤ 4; decide, hl d hd⟩
  rcases h with ⟨rfl, q⟩ | ⟨rfl, q⟩
  · refine cnd_t (by decide +kernel) ?_
    refine ex_name (i := 3) rfl rfl rfl ?_
    rw [rows_deeds]
    exact ⟨_, rfl, by rw [List.length_map]; exact f4, rowok _ f2, rt_of q⟩
  · refine cnd_f (by decide +kernel) ?_
    refine ex_name (i := 4) rfl rfl rfl ?_
    rw [rows_deeds left]
    exact ⟨_, rfl, by rw [List.length_map]; exact f5, rowok _ f3, rt_of q⟩
/-- what a told word with numbers asks -/
def ToldSp (g : Gb) (s : Addr) (ms cs : List Nat) (dn un : List (List Ent)) (z : Str) (ns : List Nat) (M : Mem) (Q : D → Mem → Prop) (E : Addr → List Str → List D → Mem → Prop) : Prop :=
  (z = "put" ∧ ∃ h c n, ns = [h, c, n] ∧ n < 1000000000 ∧ (h < ms.length → c < cs.length → Q (.str (strN (turned ms (heads dn) h))) (mup M s (storeO g ms (cs.set c n) (enter ms dn h (c, cs.getD c 0, n)) (noLogs ms.length)))) ∧
    (h < ms.length → ¬ c < cs.length → E (ga g "Refused") ["at"] [natD c] M) ∧ (¬ h < ms.length → E (ga g "NoHand") ["hand"] [natD h] M)) ∨
  (z = "done" ∧ ∃ k, ns = [k] ∧ (k < ms.length → Q (.str (rowsT ((dn.getD k []).map el))) M) ∧ (¬ k < ms.length → Q (.str "refused") M)) ∨
  (z = "undone" ∧ ∃ k, ns = [k] ∧ (k < ms.length → Q (.str (rowsT ((un.getD k []).map el))) M) ∧ (¬ k < ms.length → Q (.str "refused") M)) ∨
  (¬ (z = "put" ∧ ns.length = 3) ∧ ¬ ((z = "done" ∨ z = "undone") ∧ ns.length = 1) ∧ Q .non M)
def sp_say_told (g : Gb) : DSp := fun ds M Q E => ∃ p s ms cs dn un z ns, ds = [.ref p, .str z, .lst (natsD ns)] ∧ DeskOk g M p s ms cs dn un ∧ ToldSp g s ms cs dn un z ns M Q E
theorem turned_lt {ms last : List Nat} {h : Nat} (hm : MsOk ms) (hh : h < ms.length) : turned ms last h < ms.getD h 0 := by
  have h1 := hm.at hh
  have h2 := turned_int (ms := ms) (last := last) (h := h) (by omega)
  have h3 : turnedI ms last h < (ms.getD h 0 : Int) := Int.emod_lt_of_pos _ (by omega)
  omega
theorem in_dones (z : Str) : inV (fv (.str z)) ([D.str "done", D.str "undone"].map fv) = (decide (z = "done") || decide (z = "undone")) := by
  show (eqV (.str "done") (.str z) || (eqV (.str "undone") (.str z) || false)) = _
  have key : ∀ a b : Str, eqV (.str a) (.str b) = decide (b = a) := fun a b => by
    show (a == b) = decide (b = a)
    by_cases h : b = a
    · subst h
      simp
    · rw [decide_eq_false h]
      simpa using fun x => h x.symm
  rw [key, key, Bool.or_false]
theorem ok_Desk_say_told (T : Tb g) : Km g (ga g "Desk") "say_told" 6 ["self", "word", "numbers"] (sp_say_told g) := by
  refine T.k_Desk_say_told fun f fd F => fn_def (N := ["self", "word", "numbers", "logs"]) F ⟨rfl, rfl, rfl, by decide +kernel, rfl, by decide +kernel, by decide +kernel⟩ (by rintro _ _ _ _ ⟨_, _, _, _, _, _, _, _, rfl, _⟩; rfl) ?_
  rintro _ M Qd Ed cd ⟨p, s, ms, cs, dn, un, z, ns, rfl, ok, h⟩
  have hp := ok.hp
  have hs := ok.hs
  have hm8 := ok.so.mo.hi
  refine sxs_cons ?_
  refine sx_if ?_
  refine tx_w ?_
  have test : ∀ {c : Cz} {t : Expr} {R : Bool → Mem → Prop} {δ : Sl} {b : Bool}, WT g c t δ M (fun k M' => k = b ∧ M' = M) → R b M → WT g c t δ M R := fun h r X F0 G F σ H a b d => wW_mono (h X F0 G F σ H a b d) fun _ _ q => PoT.imp (fun k M' hk => by rw [hk.1, hk.2]; exact r) q
  refine test (b := decide (z = "put") && decide (ns.length = 3)) ?_ ?_
  · refine wt_and ?_
    refine tx_eq ?_
    refine ex_name (i := 1) rfl rfl rfl ?_
    refine ex_str ?_
    refine v_eq_str ?_
    refine v_bl ?_
    refine cnd_p (fun hb => ?_) fun hb => ⟨by rw [decide_eq_false hb]; rfl, rfl⟩
    rw [decide_eq_true hb, Bool.true_and]
    refine wt_and1 ?_
    refine tx_eq ?_
    refine ex_len rfl T.f_len ?_
    refine ex_name (i := 2) rfl rfl rfl ?_
    refine v_len_lst ?_
    rw [natsD_len]
    refine ex_int ?_
    refine v_eq_nat (n := 3) ?_
    exact ⟨rfl, rfl⟩
  rcases h with ⟨rfl, h, c, n, rfl, hn, q, qR, qH⟩ | h
  · refine cnd_t (by simp only [List.length_cons, List.length_nil]; decide +kernel) ?_
    refine sxs_one ?_
    refine sx_ret ?_
    refine ex_strc rfl T.f_str ?_
    refine ex_meth (ok_Store_put T) T.cls_Store (Nat.le_of_ble_eq_true rfl) ?_
    refine ex_fld T.cls_Desk T.no_Desk_store ?_
    refine ex_name (i := 0) rfl rfl rfl ?_
    refine ⟨_, _, _, hp, rfl, ?_⟩
    refine ⟨_, _, hs, by decide, ?_⟩
    refine ax3 ?_
    refine ex_ixa ?_
    refine ex_name (i := 2) rfl rfl rfl ?_
    refine ex_int ?_
    refine v_ix_lst (d := natD h) rfl ?_
    refine ex_ixa ?_
    refine ex_name (i := 2) rfl rfl rfl ?_
    refine ex_int ?_
    refine v_ix_lst (d := natD c) rfl ?_
    refine ex_ixa ?_
    refine ex_name (i := 2) rfl rfl rfl ?_
    refine ex_int ?_
    refine v_ix_lst (d := natD n) rfl ?_
    refine ⟨s, ms, cs, dn, un, h, c, n, rfl, ok.so, hs, hn, fun hh hc => ?_, fun hh hc => ⟨M, MSub.refl M, qR hh hc⟩, fun hh => ⟨M, MSub.refl M, qH hh⟩⟩
    refine ⟨_, rfl, strN_log (by have := turned_lt (last := heads dn) ok.so.mo hh; have := (ok.so.mo.at hh).2; omega), ?_⟩
    exact rt_of (q hh hc)
  have hput : (decide (z = "put") && decide (ns.length = 3)) = false := by
    rcases h with ⟨rfl, _⟩ | ⟨rfl, _⟩ | ⟨h1, _, _⟩
    · rw [decide_eq_false (by decide +kernel)]
      rfl
    · rw [decide_eq_false (by decide +kernel)]
      rfl
    · rw [← Bool.decide_and]
      exact decide_eq_false h1
  refine cnd_f hput ?_
  refine sxs_nil ?_
  refine sxs_cons ?_
  refine sx_if ?_
  refine tx_w ?_
  refine test (b := (decide (z = "done") || decide (z = "undone")) && decide (ns.length = 1)) ?_ ?_
  · refine wt_and ?_
    refine tx_in ?_
    refine ex_name (i := 1) rfl rfl rfl ?_
    refine ex_tup ?_
    refine ax2 ?_
    refine ex_str ?_
    refine ex_str ?_
    refine ⟨by show 2 ≤ sizeLine; decide, ?_⟩
    refine ⟨_, rfl, rfl, rfl, ?_⟩
    rw [in_dones]
    refine cnd (fun hb => ?_) fun hb => ⟨by rw [hb]; rfl, rfl⟩
    rw [hb, Bool.true_and]
    refine wt_and1 ?_
    refine tx_eq ?_
    refine ex_len rfl T.f_len ?_
    refine ex_name (i := 2) rfl rfl rfl ?_
    refine v_len_lst ?_
    rw [natsD_len]
    refine ex_int ?_
    refine v_eq_nat (n := 1) ?_
    exact ⟨rfl, rfl⟩
  have rowok : ∀ l : List Ent, (∀ e ∈ l, Small (el e)) → ∀ r ∈ l.map el, r.length ≤ 4 ∧ ∀ n ∈ r, n < 10 ^ 10 := fun l hl r hr => by
    obtain ⟨d, hd, rfl⟩ := List.mem_map.mp hr
    exact ⟨by show 4 ≤ 4; decide, hl d hd⟩
  have getm : ∀ {ls : List (List Ent)} {k : Nat}, ls.length = ms.length → k < ms.length → ls[k]? = some (ls.getD k []) := fun h hk => getD_at (by omega)
  rcases h with ⟨rfl, k, rfl, q, qN⟩ | ⟨rfl, k, rfl, q, qN⟩ | ⟨h1, h2, q⟩
  · refine cnd_t (by simp only [List.length_cons, List.length_nil]; decide +kernel) ?_
    refine sxs_cons ?_
    refine sx_set (i := 3) rfl rfl ?_
    refine ex_if ?_
    refine tx_eq ?_
    refine ex_name (i := 1) rfl rfl rfl ?_
    refine ex_str ?_
    refine v_eq_str ?_
    refine v_bl ?_
    refine cnd_t (by decide +kernel) ?_
    refine ex_fld T.cls_Store T.no_Store_done ?_
    refine ex_fld T.cls_Desk T.no_Desk_store ?_
    refine ex_name (i := 0) rfl rfl rfl ?_
    refine ⟨_, _, _, hp, rfl, ?_⟩
    refine ⟨_, _, _, hs, rfl, ?_⟩
    refine sxs_one ?_
    refine sx_ret ?_
    refine ex_if ?_
    refine tx_lt ?_
    refine ex_ixa ?_
    refine ex_name (i := 2) rfl rfl rfl ?_
    refine ex_int ?_
    refine v_ix_lst (d := natD k) rfl ?_
    refine ex_len rfl T.f_len ?_
    refine ex_name (i := 3) rfl rfl rfl ?_
    refine v_len_tup ?_
    rw [List.length_map, ok.so.dl]
    refine v_lt_nat ?_
    refine v_bl ?_
    refine cnd_p (fun hk => ?_) fun hk => ?_
    · have hl := getm ok.so.dl hk
      have hmem := List.mem_of_getElem? hl
      refine ex_call (ok_rows_text T) (Nat.le_of_ble_eq_true rfl) rfl ?_
      refine ax1 ?_
      refine ex_ixa ?_
      refine ex_name (i := 3) rfl rfl rfl ?_
      refine ex_ixa ?_
      refine ex_name (i := 2) rfl rfl rfl ?_
      refine ex_int ?_
      refine v_ix_lst (d := natD k) rfl ?_
      refine v_ix_tup (logs_at hl) ?_
      rw [rows_ents]
      exact ⟨_, rfl, by rw [List.length_map]; have := ok.so.d1 _ hmem; omega, rowok _ (ok.d1 _ hmem), rt_of (q hk)⟩
    · refine ex_str ?_
      exact rt_of (qN hk)
  · refine cnd_t (by simp only [List.length_cons, List.length_nil]; decide +kernel) ?_
    refine sxs_cons ?_
    refine sx_set (i := 3) rfl rfl ?_
    refine ex_if ?_
    refine tx_eq ?_
    refine ex_name (i := 1) rfl rfl rfl ?_
    refine ex_str ?_
    refine v_eq_str ?_
    refine v_bl ?_
    refine cnd_f (by decide +kernel) ?_
    refine ex_fld T.cls_Store T.no_Store_undone ?_
    refine ex_fld T.cls_Desk T.no_Desk_store ?_
    refine ex_name (i := 0) rfl rfl rfl ?_
    refine ⟨_, _, _, hp, rfl, ?_⟩
    refine ⟨_, _, _, hs, rfl, ?_⟩
    refine sxs_one ?_
    refine sx_ret ?_
    refine ex_if ?_
    refine tx_lt ?_
    refine ex_ixa ?_
    refine ex_name (i := 2) rfl rfl rfl ?_
    refine ex_int ?_
    refine v_ix_lst (d := natD k) rfl ?_
    refine ex_len rfl T.f_len ?_
    refine ex_name (i := 3) rfl rfl rfl ?_
    refine v_len_tup ?_
    rw [List.length_map, ok.so.ul]
    refine v_lt_nat ?_
    refine v_bl ?_
    refine cnd_p (fun hk => ?_) fun hk => ?_
    · have hl := getm ok.so.ul hk
      have hmem := List.mem_of_getElem? hl
      refine ex_call (ok_rows_text T) (Nat.le_of_ble_eq_true rfl) rfl ?_
      refine ax1 ?_
      refine ex_ixa ?_
      refine ex_name (i := 3) rfl rfl rfl ?_
      refine ex_ixa ?_
      refine ex_name (i := 2) rfl rfl rfl ?_
      refine ex_int ?_
      refine v_ix_lst (d := natD k) rfl ?_
      refine v_ix_tup (logs_at hl) ?_
      rw [rows_ents]
      exact ⟨_, rfl, by rw [List.length_map]; have := ok.so.u1 _ hmem; omega, rowok _ (ok.u1 _ hmem), rt_of (q hk)⟩
    · refine ex_str ?_
      exact rt_of (qN hk)
  · have hb : ((decide (z = "done") || decide (z = "undone")) && decide (ns.length = 1)) = false := by
      rw [← Bool.decide_or, ← Bool.decide_and]
      exact decide_eq_false h2
    refine cnd_f hb ?_
    refine sxs_nil ?_
    refine sxs_one ?_
    refine sx_ret ?_
    refine ex_non ?_
    exact rt_of q
end DL

set_option Elab.async false
set_option linter.all false
set_option maxRecDepth 100000
set_option maxHeartbeats 1000000
/-! # The law's defs: box, take, pick, mixed, size -/
namespace DL
open PySem PySem.Spec PyProof.Rows L2
open Evl (Ex)
local macro_rules | `(tactic| walk_at "sw") => `(tactic| (intro env h; obtain ⟨sc, _, _, _, _, _, _, _, _⟩ := env; (have h : sc = _ := h); subst h; rfl))
section
variable {g : Gb} {c : Cz} {δ : Sl} {M : Mem} {Q : D → Mem → Prop} {O : Od} {pos : Pos} {tg iter elt : Expr} {ifs : List Expr} {scope : Scope} {own : List (Str × Nat)} {i j : Int}
theorem v_intc (q : Q (.int i) M) : IntcD (.int i) M Q := q
theorem v_abs (q : Q (.int (i.natAbs : Int)) M) : ∃ k, D.int i = .int k ∧ Q (.int (if k < 0 then -k else k)) M := ⟨i, rfl, by
  have e : (if i < 0 then -i else i) = (i.natAbs : Int) := by split <;> omega
  rw [e]
  exact q⟩
theorem v_pow_nat {m n : Nat} (h : n ≤ 1000000) (h2 : m < 2 ^ 64) (q : Q (.int ((m ^ n : Nat) : Int)) M) : PowD (.int (m : Int)) (.int (n : Int)) M Q := by
  refine ⟨⟨by omega, by omega, by rw [Int.natAbs_natCast]; exact h2⟩, ?_⟩
  rw [Int.toNat_natCast]
  have e : ((m : Int)) ^ n = ((m ^ n : Nat) : Int) := by
    rw [Int.natCast_pow]
  rw [e]
  exact q
/-- a comprehension's list that may change -/
theorem ex_lcN (hb : blkC c.N c.sc scope own = true) (h : IX g c tg iter δ M (PurD g c δ tg elt ifs scope (own.map (·.2)) (NewQ Q))) (hs : ∀ env x, foldedSetIterable iter env x = pure x := by intro _ _; rfl) : EX g c (.ListComp elt [⟨tg, iter, ifs, 0⟩] scope pos) δ M Q :=
  ex_lc (own := own) hb (IX.imp h fun _ _ _ q => LcD.imp (pur_lc q) fun _ _ k => frz_new k) hs
theorem mup_over2 {M : Mem} {a b : Addr} {x x' y : MO} (ab : a ≠ b) : mup (mup (mup M a x) b y) a x' = mup (mup M a x') b y := by
  funext z
  unfold mup
  by_cases h : z = a
  · subst h
    rw [if_pos rfl, if_neg ab, if_pos rfl]
  · rw [if_neg h, if_neg h, if_neg h]
theorem mup_comm {M : Mem} {a b : Addr} {x y : MO} (ab : a ≠ b) : mup (mup M a x) b y = mup (mup M b y) a x := by
  funext z
  unfold mup
  by_cases h : z = a
  · subst h
    rw [if_neg ab, if_pos rfl, if_pos rfl]
  · rw [if_neg h, if_neg h]
theorem mdel_mup_ne {M : Mem} {a b : Addr} {x : MO} (ab : b ≠ a) : mdel (mup M b x) a = mup (mdel M a) b x := by
  funext z
  unfold mdel mup
  by_cases h : z = b
  · subst h
    rw [if_neg ab, if_pos rfl, if_pos rfl]
  · rw [if_neg h, if_neg h]
end
variable {g : Gb}
/-- a box -/
abbrev boxO (G S : Nat) : MO := .lst [natD G, natD S]
def sp__law_box : DSp := fun ds M Q _ => ∃ (ns : List Int), ∃ k : Nat, ds = [.fro (ns.map D.int), natD k] ∧ k < 1000 ∧ ∀ b, M b = none → ∀ G S : Nat, Q (.ref b) (mup M b (boxO G S))
theorem script_at {ns : List Int} {i : Nat} (h : i < ns.length) : ∃ z, atI (ns.map D.int) (i : Int) = some (.int z) := ⟨ns[i], atI_nat (by rw [List.getElem?_map, List.getElem?_eq_getElem h]; rfl)⟩
theorem ok__law_box (T : Tb g) : Kn g "_law_box" 1 ["_law_script", "_law_k"] sp__law_box := by
  refine T.k__law_box fun f fd F => fn_def (N := ["_law_script", "_law_k", "_law_cell", "_law_great"]) F ⟨rfl, rfl, rfl, by decide +kernel, rfl, by decide +kernel, by decide +kernel⟩ (by rintro _ _ _ _ ⟨_, _, rfl, _⟩; rfl) ?_
  rintro _ M Qd Ed cd ⟨ns, k, rfl, hk, q⟩
  have tail : ∀ cell : Nat, SXs g (bodyC ["_law_script", "_law_k", "_law_cell", "_law_great"] (defScope (topS 74)) 0 Ed "_law_box" cd) ((defBody (topS 74)).drop 2) [some (.fro (ns.map D.int)), some (natD k), some (natD cell), none] M (bodyO Qd) := fun cell => by
    refine sxs_cons ?_
    refine sx_set (i := 3) rfl rfl ?_
    have fin : ∀ G : Nat, SXs g (bodyC ["_law_script", "_law_k", "_law_cell", "_law_great"] (defScope (topS 74)) 0 Ed "_law_box" cd) ((defBody (topS 74)).drop 3) [some (.fro (ns.map D.int)), some (natD k), some (natD cell), some (natD G)] M (bodyO Qd) := fun G => by
      refine sxs_one ?_
      refine sx_ret ?_
      refine ex_lstN ?_
      refine ax2 ?_
      refine ex_name (i := 3) rfl rfl rfl ?_
      refine ex_add ?_
      refine ex_mod ?_
      refine ex_intc rfl T.f_int ?_
      refine ex_add ?_
      refine ex_mul ?_
      refine ex_mod ?_
      refine ex_intc rfl T.f_int ?_
      refine ex_name (i := 2) rfl rfl rfl ?_
      refine v_intc ?_
      refine ex_int ?_
      refine v_mod_nat (n := 2147483579) (by decide) ?_
      refine ex_int ?_
      refine v_mul_nat (n := 48271) (.inr (by decide)) ?_
      refine ex_mul ?_
      refine ex_int ?_
      refine ex_name (i := 1) rfl rfl rfl ?_
      refine v_mul_nat (m := 277) (.inl (by decide)) ?_
      refine v_add_nat ?_
      refine v_intc ?_
      refine ex_int ?_
      refine v_mod_nat (n := 2147483579) (by decide) ?_
      refine ex_int ?_
      refine v_add_nat (n := 1) ?_
      refine ⟨by show 2 ≤ sizeLine; decide, fun p hp => ?_⟩
      exact rt_of (q p hp G _)
    refine ex_if ?_
    refine tx_ge ?_
    refine ex_name (i := 2) rfl rfl rfl ?_
    refine ex_pow ?_
    refine ex_int ?_
    refine ex_int ?_
    refine v_pow_nat (m := 10) (n := 18) (by decide) (by decide) ?_
    refine v_ge_nat ?_
    refine v_bl ?_
    refine cnd (fun hb => ?_) fun hb => ?_
    · refine ex_name (i := 2) rfl rfl rfl ?_
      exact fin cell
    · refine ex_int ?_
      exact fin 0
  refine sxs_cons ?_
  refine sx_set (i := 2) rfl rfl ?_
  refine ex_add ?_
  refine ex_mul ?_
  refine ex_int ?_
  refine ex_name (i := 1) rfl rfl rfl ?_
  refine v_mul_nat (m := 6203) (.inl (by decide)) ?_
  refine ex_int ?_
  refine v_add_nat (n := 937) ?_
  refine sxs_cons ?_
  refine sx_if ?_
  refine tx_lt ?_
  refine ex_name (i := 1) rfl rfl rfl ?_
  refine ex_len rfl T.f_len ?_
  refine ex_name (i := 0) rfl rfl rfl ?_
  refine v_len_fro ?_
  rw [List.length_map]
  refine v_lt_nat ?_
  refine v_bl ?_
  refine cnd_p (fun hb => ?_) fun hb => ?_
  · obtain ⟨z, hz⟩ := script_at (ns := ns) hb
    refine sxs_one ?_
    refine sx_set (i := 2) rfl rfl ?_
    refine ex_abs rfl T.f_abs ?_
    refine ex_intc rfl T.f_int ?_
    refine ex_ixa ?_
    refine ex_name (i := 0) rfl rfl rfl ?_
    refine ex_name (i := 1) rfl rfl rfl ?_
    refine v_ix_fro hz ?_
    refine v_intc ?_
    refine ⟨_, rfl, ?_⟩
    rw [show (if z < 0 then -z else z) = ((z.natAbs : Nat) : Int) by split <;> omega]
    exact tail z.natAbs
  ·
    refine sxs_one ?_
    refine sx_if ?_
    refine tx_gt ?_
    refine ex_len rfl T.f_len ?_
    refine ex_name (i := 0) rfl rfl rfl ?_
    refine v_len_fro ?_
    rw [List.length_map]
    refine ex_int ?_
    refine v_gt_nat (n := 0) ?_
    refine v_bl ?_
    refine cnd_p (fun hb2 => ?_) fun hb2 => ?_
    · have hb2 : 0 < ns.length := hb2
      obtain ⟨z, hz⟩ := script_at (ns := ns) (i := k % ns.length) (Nat.mod_lt _ hb2)
      refine sxs_one ?_
      refine sx_set (i := 2) rfl rfl ?_
      refine ex_add ?_
      refine ex_name (i := 2) rfl rfl rfl ?_
      refine ex_mul ?_
      refine ex_mod ?_
      refine ex_intc rfl T.f_int ?_
      refine ex_abs rfl T.f_abs ?_
      refine ex_intc rfl T.f_int ?_
      refine ex_ixa ?_
      refine ex_name (i := 0) rfl rfl rfl ?_
      refine ex_mod ?_
      refine ex_intc rfl T.f_int ?_
      refine ex_name (i := 1) rfl rfl rfl ?_
      refine v_intc ?_
      refine ex_len rfl T.f_len ?_
      refine ex_name (i := 0) rfl rfl rfl ?_
      refine v_len_fro ?_
      rw [List.length_map]
      refine v_mod_nat hb2 ?_
      refine v_ix_fro hz ?_
      refine v_intc ?_
      refine ⟨_, rfl, ?_⟩
      rw [show (if z < 0 then -z else z) = ((z.natAbs : Nat) : Int) by split <;> omega]
      refine v_intc ?_
      refine ex_int ?_
      refine v_mod_nat (n := 2147483579) (by decide) ?_
      refine ex_int ?_
      refine v_mul_nat (n := 40009) (.inr (by decide)) ?_
      refine v_add_nat ?_
      exact tail _
    · refine sxs_nil ?_
      exact tail _
def sp__law_take : DSp := fun ds M Q _ => ∃ b, ∃ G S m : Nat, ds = [.ref b, natD m] ∧ M b = some (boxO G S) ∧ 0 < m ∧ m < 1073741824 ∧ ∀ r G' S' : Nat, r < m → Q (natD r) (mup M b (boxO G' S'))
theorem ok__law_take (T : Tb g) : Kn g "_law_take" 1 ["_law_box_here", "_law_many"] sp__law_take := by
  refine T.k__law_take fun f fd F => fn_def (N := ["_law_box_here", "_law_many", "_law_digit", "_law_raw"]) F ⟨rfl, rfl, rfl, by decide +kernel, rfl, by decide +kernel, by decide +kernel⟩ (by rintro _ _ _ _ ⟨_, _, _, _, rfl, _⟩; rfl) ?_
  rintro _ M Qd Ed cd ⟨b, G, S, m, rfl, hM, hm, hm2, q⟩
  refine sxs_cons ?_
  refine sx_if ?_
  refine tx_gt ?_
  refine ex_ixa ?_
  refine ex_name (i := 0) rfl rfl rfl ?_
  refine ex_int ?_
  refine v_ix_ref hM (d := natD G) rfl ?_
  refine ex_int ?_
  refine v_gt_nat (n := 0) ?_
  refine v_bl ?_
  refine cnd_p (fun hb => ?_) fun hb => ?_
  ·
    refine sxs_cons ?_
    refine sx_set (i := 2) rfl rfl ?_
    refine ex_mod ?_
    refine ex_intc rfl T.f_int ?_
    refine ex_ixa ?_
    refine ex_name (i := 0) rfl rfl rfl ?_
    refine ex_int ?_
    refine v_ix_ref hM (d := natD G) rfl ?_
    refine v_intc ?_
    refine ex_name (i := 1) rfl rfl rfl ?_
    refine v_mod_nat hm ?_
    refine sxs_cons ?_
    refine sx_asg ?_
    refine ex_fdiv ?_
    refine ex_ixa ?_
    refine ex_name (i := 0) rfl rfl rfl ?_
    refine ex_int ?_
    refine v_ix_ref hM (d := natD G) rfl ?_
    refine ex_name (i := 1) rfl rfl rfl ?_
    refine v_fdiv_nat hm hm2 ?_
    refine gx_sub ?_
    refine ex_name (i := 0) rfl rfl rfl ?_
    refine ex_int ?_
    refine ⟨_, _, _, 0, rfl, rfl, hM, rfl, ?_⟩
    refine sxs_one ?_
    refine sx_ret ?_
    refine ex_name (i := 2) rfl rfl rfl ?_
    exact rt_of (q _ _ _ (Nat.mod_lt _ hm))
  · refine sxs_nil ?_
    refine sxs_cons ?_
    refine sx_set (i := 3) rfl rfl ?_
    refine ex_mod ?_
    refine ex_intc rfl T.f_int ?_
    refine ex_add ?_
    refine ex_mul ?_
    refine ex_ixa ?_
    refine ex_name (i := 0) rfl rfl rfl ?_
    refine ex_int ?_
    refine v_ix_ref hM (d := natD S) rfl ?_
    refine ex_int ?_
    refine v_mul_nat (n := 40014) (.inr (by decide)) ?_
    refine ex_int ?_
    refine v_add_nat (n := 53) ?_
    refine v_intc ?_
    refine ex_int ?_
    refine v_mod_nat (n := 2147483563) (by decide) ?_
    refine sxs_cons ?_
    refine sx_asg ?_
    refine ex_add ?_
    refine ex_mod ?_
    refine ex_intc rfl T.f_int ?_
    refine ex_add ?_
    refine ex_mul ?_
    refine ex_name (i := 3) rfl rfl rfl ?_
    refine ex_int ?_
    refine v_mul_nat (n := 40692) (.inr (by decide)) ?_
    refine ex_int ?_
    refine v_add_nat (n := 37) ?_
    refine v_intc ?_
    refine ex_int ?_
    refine v_mod_nat (n := 2147483579) (by decide) ?_
    refine ex_int ?_
    refine v_add_nat (n := 1) ?_
    refine gx_sub ?_
    refine ex_name (i := 0) rfl rfl rfl ?_
    refine ex_int ?_
    refine ⟨_, _, _, 1, rfl, rfl, hM, rfl, ?_⟩
    refine sxs_one ?_
    refine sx_ret ?_
    refine ex_mod ?_
    refine ex_intc rfl T.f_int ?_
    refine ex_fdiv ?_
    refine ex_add ?_
    refine ex_mul ?_
    refine ex_name (i := 3) rfl rfl rfl ?_
    refine ex_int ?_
    refine v_mul_nat (n := 2147483629) (.inr (by decide)) ?_
    refine ex_ixa ?_
    refine ex_name (i := 0) rfl rfl rfl ?_
    refine ex_int ?_
    refine v_ix_ref mup_same (d := natD ((((S * 40014 + 53) % 2147483563) * 40692 + 37) % 2147483579 + 1)) rfl ?_
    refine v_add_nat ?_
    refine ex_int ?_
    refine v_fdiv_nat (n := 8191) (by decide) (by decide) ?_
    refine v_intc ?_
    refine ex_name (i := 1) rfl rfl rfl ?_
    refine v_mod_nat hm ?_
    exact rt_of (q _ _ _ (Nat.mod_lt _ hm))
def sp__law_pick : DSp := fun ds M Q _ => ∃ b, ∃ G S : Nat, ∃ x xs, ds = [.ref b, x] ∧ M b = some (boxO G S) ∧ (x = .lst xs ∨ x = .tup xs) ∧ 0 < xs.length ∧ xs.length < 1000000 ∧ ∀ d, ∀ G' S' : Nat, d ∈ xs → Q d (mup M b (boxO G' S'))
theorem ok__law_pick (T : Tb g) : Kn g "_law_pick" 2 ["_law_box_here", "_law_some"] sp__law_pick := by
  refine T.k__law_pick fun f fd F => fn_def (N := ["_law_box_here", "_law_some"]) F ⟨rfl, rfl, rfl, by decide +kernel, rfl, by decide +kernel, by decide +kernel⟩ (by rintro _ _ _ _ ⟨_, _, _, _, _, rfl, _⟩; rfl) ?_
  rintro _ M Qd Ed cd ⟨b, G, S, x, xs, rfl, hM, hx, h1, h2, q⟩
  refine sxs_one ?_
  refine sx_ret ?_
  refine ex_ixa ?_
  refine ex_name (i := 1) rfl rfl rfl ?_
  refine ex_call (ok__law_take T) (Nat.le_of_ble_eq_true rfl) rfl ?_
  refine ax2 ?_
  refine ex_name (i := 0) rfl rfl rfl ?_
  refine ex_len rfl T.f_len ?_
  refine ex_name (i := 1) rfl rfl rfl ?_
  have hl : ∀ {M : Mem} {Q : D → Mem → Prop}, Q (.int (xs.length : Int)) M → LenD x M Q := fun {M Q} k => by
    rcases hx with rfl | rfl
    · exact v_len_lst k
    · exact v_len_tup k
  refine hl ?_
  refine ⟨b, G, S, xs.length, rfl, hM, h1, by omega, fun r G' S' hr => ?_⟩
  have hg : xs[r]? = some xs[r] := List.getElem?_eq_getElem hr
  have fin : (bodyO Qd).rt xs[r] (mup M b (boxO G' S')) := rt_of (q _ G' S' (List.getElem_mem hr))
  rcases hx with rfl | rfl
  · exact v_ix_lst (atI_nat hg) fin
  · exact v_ix_tup (atI_nat hg) fin
def sp__law_size : DSp := fun ds M Q _ => ∃ ms, ds = [.lst (natsD ms)] ∧ MsOk ms ∧ Q (natD (lcmL ms)) M
theorem ok__law_size (T : Tb g) : Kn g "_law_size" 1 ["_law_marks_here"] sp__law_size := by
  refine T.k__law_size fun f fd F => fn_def (N := ["_law_marks_here", "_law_size_here", "_law_many", "_law_one", "_law_other"]) F ⟨rfl, rfl, rfl, by decide +kernel, rfl, by decide +kernel, by decide +kernel⟩ (by rintro _ _ _ _ ⟨_, rfl, _⟩; rfl) ?_
  rintro _ M Qd Ed cd ⟨ms, rfl, hm, q⟩
  refine sxs_cons ?_
  refine sx_set (i := 1) rfl rfl ?_
  refine ex_int ?_
  refine sxs_cons ?_
  refine sx_for ?_
  refine ix_lst ?_
  refine ex_name (i := 0) rfl rfl rfl ?_
  refine ⟨_, rfl, ?_⟩
  refine for_walk (xs := ms) (fun r δ' M' => ∃ b u v w, 0 < b ∧ (∀ m ∈ r, 1 ≤ m ∧ m ≤ 60) ∧ r.foldl Nat.lcm b = lcmL ms ∧ M' = M ∧ δ' = [some (.lst (natsD ms)), some (natD b), u, v, w]) ⟨1, _, _, _, by decide, hm.each, rfl, rfl, rfl⟩ (fun _ _ _ _ => trivial) ?_ ?_
  · rintro m r δ' M' ⟨b, u, v, w, hb, hr, hl, rfl, rfl⟩
    have hm1 := hr m List.mem_cons_self
    have hb2 : b ≤ lcmL ms := Nat.le_of_dvd hm.pos (by rw [← hl]; exact lcm_fold_dvd)
    have hb3 := hm.lcm
    refine gx_name (i := 2) rfl rfl ?_
    refine sxs_cons ?_
    refine sx_par (i := 3) (j := 4) rfl rfl (by decide) rfl rfl (by walk_at "sw") ?_
    refine ax2 ?_
    refine ex_name (i := 1) rfl rfl rfl ?_
    refine ex_name (i := 2) rfl rfl rfl ?_
    refine ⟨_, _, rfl, ?_⟩
    refine sxs_cons ?_
    refine sx_while (fun n δ' M'' => ∃ x : Nat, Nat.gcd x n = Nat.gcd b m ∧ M'' = M' ∧ δ' = [some (.lst (natsD ms)), some (natD b), some (natD m), some (natD x), some (natD n)]) m ⟨b, rfl, rfl, rfl⟩ ?_
    rintro n δ' M' ⟨x, hg, rfl, rfl⟩
    refine tx_ne ?_
    refine ex_name (i := 4) rfl rfl rfl ?_
    refine ex_int ?_
    refine v_eq_nat (n := 0) ?_
    refine v_bl ?_
    refine cnd (fun hc => ?_) fun hc => ?_
    · have hn : n ≠ 0 := by simpa using hc
      refine sxs_one ?_
      refine sx_par (i := 3) (j := 4) rfl rfl (by decide) rfl rfl (by walk_at "sw") ?_
      refine ax2 ?_
      refine ex_name (i := 4) rfl rfl rfl ?_
      refine ex_mod ?_
      refine ex_intc rfl T.f_int ?_
      refine ex_name (i := 3) rfl rfl rfl ?_
      refine v_intc ?_
      refine ex_name (i := 4) rfl rfl rfl ?_
      refine v_mod_nat (by omega) ?_
      refine ⟨_, _, rfl, ?_⟩
      exact ⟨x % n, Nat.mod_lt _ (by omega), n, gcd_turn.trans hg, rfl, rfl⟩
    · have hn : n = 0 := by simpa using hc
      subst hn
      have hx : x = Nat.gcd b m := by rw [← hg, Nat.gcd_zero_right]
      subst hx
      have h1 := Nat.gcd_pos_of_pos_left m hb
      have h2 := Nat.gcd_le_left m hb
      refine sxs_one ?_
      refine sx_set (i := 1) rfl rfl ?_
      refine ex_mul ?_
      refine ex_fdiv ?_
      refine ex_name (i := 1) rfl rfl rfl ?_
      refine ex_name (i := 3) rfl rfl rfl ?_
      refine v_fdiv_nat (by omega) (by omega) ?_
      refine ex_name (i := 2) rfl rfl rfl ?_
      refine v_mul_nat (.inr (by omega)) ?_
      have e : b / Nat.gcd b m * m = Nat.lcm b m := by
        unfold Nat.lcm
        rw [Nat.div_mul_right_comm (Nat.gcd_dvd_left b m)]
      rw [e]
      exact ⟨Nat.lcm b m, _, _, _, Nat.lcm_pos hb (by omega), fun x hx => hr x (List.mem_cons_of_mem _ hx), hl, rfl, rfl⟩
  · rintro δ' M' ⟨b, u, v, w, hb, _, hl, rfl, rfl⟩
    obtain rfl : b = lcmL ms := hl
    refine sxs_one ?_
    refine sx_ret ?_
    refine ex_name (i := 1) rfl rfl rfl ?_
    exact rt_of q
end DL

set_option Elab.async false
set_option linter.all false
set_option maxRecDepth 100000
set_option maxHeartbeats 1000000
/-! # The law's marks -/
namespace DL
open PySem PySem.Spec PyProof.Rows L2
open Evl (Ex)
local macro_rules | `(tactic| walk_at "sw") => `(tactic| (intro env h; obtain ⟨sc, _, _, _, _, _, _, _, _⟩ := env; (have h : sc = _ := h); subst h; rfl))
section
variable {g : Gb} {c : Cz} {δ : Sl} {M : Mem} {Q : D → Mem → Prop} {pos : Pos} {tg iter elt : Expr} {ifs : List Expr} {scope : Scope} {own : List (Str × Nat)} {vs : List Nat} {stay : Mem → Prop}
/-- a comprehension whose turns take from a box -/
theorem lc_box {α : Type} {xs : List α} {f : α → D} {b : Addr} {G S : Nat} {P : D → Prop} (hM : M b = some (boxO G S)) (hz : xs.length ≤ 100000) (hst : ∀ M', stay M')
    (one : ∀ x ∈ xs, ∀ M' G S, M' b = some (boxO G S) → GW g (c.blk scope) vs tg (f x) (wipeD δ vs) M' fun δ2 M2 => M2 = M' ∧ EX g (c.blk scope) elt δ2 M' fun y M4 => P y ∧ ∃ G' S', M4 = mup M' b (boxO G' S'))
    (q : ∀ ds G' S', ds.length = xs.length → (∀ d ∈ ds, P d) → Q (.lst ds) (mup M b (boxO G' S'))) : LcD g c δ tg elt [] scope vs (fun d M1 => FrzD M1 Q d) (xs.map f) stay M := fun Dl hD => by
  have nb : b ≠ Dl := ne_none hM hD
  refine ⟨fun i acc M' => ∃ G' S', M' = mup (mup M b (boxO G' S')) Dl (.lst acc) ∧ acc.length = i ∧ ∀ d ∈ acc, P d, ⟨G, S, ?_, rfl, fun d hd => by cases hd⟩, ?_, ?_, ?_⟩
  · rw [show mup M b (boxO G S) = M from ?_]
    funext z
    unfold mup
    split
    · next h => rw [h, hM]
    · rfl
  · rintro i acc M' ⟨G', S', rfl, _, _⟩
    exact ⟨hst _, mup_same⟩
  · rintro i d acc M' hd ⟨G', S', rfl, hl, hP⟩
    rw [List.getElem?_map] at hd
    obtain ⟨x, hx, rfl⟩ := Option.map_eq_some_iff.mp hd
    have hi := (List.getElem?_eq_some_iff.mp hx).1
    intro X F0 Gd F σ H v eF st sl r
    refine wG_mono (one x (List.mem_of_getElem? hx) _ G' S' (by rw [mup_ne nb]; exact mup_same) X F0 Gd F σ H v eF st sl r) fun σ' H' q2 => ⟨q2.1, PoN.imp (fun δ2 M2 q3 => ?_) q2.2⟩
    obtain ⟨rfl, q3⟩ := q3
    refine EX.imp q3 fun y M4 q4 => ?_
    obtain ⟨hy, G2, S2, rfl⟩ := q4
    have hz2 := sizeLine_eq
    refine ⟨by rw [mup_ne nb.symm]; exact mup_same, by omega, G2, S2, ?_, by rw [List.length_append, hl]; rfl, fun d hd => ?_⟩
    · rw [mup_comm nb.symm, mup_mup, mup_mup]
    · rcases List.mem_append.mp hd with h | h
      · exact hP d h
      · rw [List.mem_singleton.mp h]
        exact hy
  · rintro acc M' ⟨G', S', rfl, hl, hP⟩
    refine ⟨Dl, rfl, .inl ⟨acc, mup_same, ?_⟩⟩
    rw [mdel_mup (by rw [mup_ne nb.symm]; exact hD)]
    rw [List.length_map] at hl
    exact q acc G' S' hl hP
theorem ex_lcF (hb : blkC c.N c.sc scope own = true) (h : IX g c tg iter δ M (LcD g c δ tg elt ifs scope (own.map (·.2)) fun d M1 => FrzD M1 Q d)) (hs : ∀ env x, foldedSetIterable iter env x = pure x := by intro _ _; rfl) : EX g c (.ListComp elt [⟨tg, iter, ifs, 0⟩] scope pos) δ M Q :=
  EX.frz (ex_lc (own := own) hb h hs)
end
variable {g : Gb}
def sp__law_mixed : DSp := fun ds M Q _ => ∃ b, ∃ G S : Nat, ∃ x xs, ds = [.ref b, x] ∧ M b = some (boxO G S) ∧ (x = .lst xs ∨ x = .tup xs) ∧ xs.length < 1000 ∧ ∀ ys, ∀ G' S' : Nat, ys.Perm xs → Q (.lst ys) (mup M b (boxO G' S'))
theorem perm_erase {α : Type} {l : List α} {i : Nat} {d : α} (h : l[i]? = some d) : (d :: l.eraseIdx i).Perm l := by
  induction l generalizing i with
  | nil => simp at h
  | cons y ys ih =>
    cases i with
    | zero =>
      simp at h
      subst h
      exact List.Perm.refl _
    | succ i =>
      have h : ys[i]? = some d := by simpa using h
      show (d :: y :: ys.eraseIdx i).Perm (y :: ys)
      exact (List.Perm.swap y d _).trans (List.Perm.cons y (ih h))
theorem ok__law_mixed (T : Tb g) : Kn g "_law_mixed" 2 ["_law_box_here", "_law_some"] sp__law_mixed := by
  refine T.k__law_mixed fun f fd F => fn_def (N := ["_law_box_here", "_law_some", "_law_found", "_law_left", "_law_turn"]) F ⟨rfl, rfl, rfl, by decide +kernel, rfl, by decide +kernel, by decide +kernel⟩ (by rintro _ _ _ _ ⟨_, _, _, _, _, rfl, _⟩; rfl) ?_
  rintro _ M Qd Ed cd ⟨b, G, S, x, xs, rfl, hM, hx, hz, q⟩
  refine sxs_cons ?_
  refine sx_par (i := 2) (j := 3) rfl rfl (by decide) rfl rfl (by walk_at "sw") ?_
  refine ax2 ?_
  refine ex_lstN ?_
  refine ax_nil ?_
  refine ⟨by show 0 ≤ sizeLine; decide, fun p hp => ?_⟩
  have pb : b ≠ p := ne_none hM hp
  refine ex_lisc rfl T.f_list ?_
  refine ex_name (i := 1) rfl rfl rfl ?_
  refine ⟨xs, by rcases hx with rfl | rfl <;> exact rfl, .inl fun r hr => ?_⟩
  obtain ⟨rp, hr⟩ := none_mup hr
  have rb : b ≠ r := ne_none hM hr
  refine ⟨_, _, rfl, ?_⟩
  refine sxs_cons ?_
  refine sx_for ?_
  refine ix_rng1 rfl T.f_range ?_
  refine ex_len rfl T.f_len ?_
  refine ex_name (i := 3) rfl rfl rfl ?_
  refine v_len_ref mup_same ?_
  refine ⟨_, rfl, by omega, by omega, ?_⟩
  rw [rngD_zero, Int.toNat_natCast]
  refine for_walk (xs := List.range xs.length) (fun rest δ' M' => ∃ G' S' fs ls u, (fs ++ ls).Perm xs ∧ rest.length = ls.length ∧ M' = mup (mup (mup M b (boxO G' S')) p (.lst fs)) r (.lst ls) ∧ δ' = [some (.ref b), some x, some (.ref p), some (.ref r), u]) ⟨G, S, [], xs, _, List.Perm.refl _, by rw [List.length_range], ?_, rfl⟩ (fun _ _ _ _ => trivial) ?_ ?_
  · congr 2
    funext z
    unfold mup
    split
    · next h => rw [h, hM]
    · rfl
  · rintro _ rest δ' M' ⟨G', S', fs, ls, u, hp2, hl, rfl, rfl⟩
    have hll := hp2.length_eq
    rw [List.length_append] at hll
    rw [List.length_cons] at hl
    refine gx_name (i := 4) rfl rfl ?_
    refine sxs_one ?_
    refine sx_expr ?_
    refine ex_append ?_
    refine ex_name (i := 2) rfl rfl rfl ?_
    refine ⟨_, _, rfl, by rw [mup_ne rp.symm]; exact mup_same, ?_⟩
    refine ex_popAt ?_
    refine ex_name (i := 3) rfl rfl rfl ?_
    refine ⟨_, _, rfl, mup_same, ?_⟩
    refine ex_call (ok__law_take T) (Nat.le_of_ble_eq_true rfl) rfl ?_
    refine ax2 ?_
    refine ex_name (i := 0) rfl rfl rfl ?_
    refine ex_len rfl T.f_len ?_
    refine ex_name (i := 3) rfl rfl rfl ?_
    refine v_len_ref mup_same ?_
    refine ⟨b, G', S', ls.length, rfl, by rw [mup_ne rb, mup_ne pb]; exact mup_same, by omega, by omega, fun k G2 S2 hk => ?_⟩
    refine ⟨ls, (k : Int), ls[k], rfl, by rw [mup_ne rb.symm]; exact mup_same, by omega, by omega, by rw [Int.toNat_natCast]; exact List.getElem?_eq_getElem hk, ?_⟩
    have hz2 := sizeLine_eq
    refine ⟨fs, by rw [mup_ne rp.symm, mup_ne pb.symm, mup_ne rp.symm]; exact mup_same, by omega, ?_⟩
    rw [Int.toNat_natCast]
    have hg : ls[k]? = some ls[k] := List.getElem?_eq_getElem hk
    have hp3 : ((fs ++ [ls[k]]) ++ ls.eraseIdx k).Perm xs := by
      rw [List.append_assoc]
      exact ((perm_erase hg).append_left fs).trans hp2
    refine ⟨G2, S2, fs ++ [ls[k]], ls.eraseIdx k, _, hp3, by rw [List.length_eraseIdx, if_pos hk]; omega, ?_, rfl⟩
    funext z
    unfold mup
    by_cases h1 : z = p
    · subst h1
      simp [rp.symm, pb.symm]
    · by_cases h2 : z = r
      · subst h2
        simp [h1]
      · by_cases h3 : z = b
        · subst h3
          simp [h1, h2]
        · simp [h1, h2, h3]
  · rintro δ' M' ⟨G', S', fs, ls, u, hp2, hl, rfl, rfl⟩
    obtain rfl : ls = [] := List.length_eq_zero_iff.mp hl.symm
    rw [List.append_nil] at hp2
    refine sxs_one ?_
    refine sx_ret ?_
    refine EX.frz ?_
    refine ex_name (i := 2) rfl rfl rfl ?_
    refine ⟨p, rfl, .inl ⟨fs, by rw [mup_ne rp.symm]; exact mup_same, ?_⟩⟩
    refine rt_sub (M := mup M b (boxO G' S')) (fun z m hm => ?_) (q fs G' S' hp2)
    have zp : z ≠ p := fun h => by
      subst h
      rw [mup_ne pb.symm, hp] at hm
      cases hm
    have zr : z ≠ r := fun h => by
      subst h
      rw [mup_ne rb.symm, hr] at hm
      cases hm
    show (if z = p then none else _) = _
    rw [if_neg zp, mup_ne zr, mup_ne zp]
    exact hm
/-! ### good marks -/
structure GoodMs (ms : List Nat) : Prop where
  mo : MsOk ms
  te : TellOk ms
  ln : ms.length ≤ 5
theorem lcm_comm3 (a b c : Nat) : Nat.lcm (Nat.lcm a b) c = Nat.lcm (Nat.lcm a c) b := by
  rw [Nat.lcm_assoc, Nat.lcm_comm b c, ← Nat.lcm_assoc]
theorem lcm_perm {l l' : List Nat} (h : l.Perm l') : ∀ b, l.foldl Nat.lcm b = l'.foldl Nat.lcm b := by
  induction h with
  | nil => exact fun _ => rfl
  | cons x _ ih => exact fun b => ih _
  | swap x y l =>
    intro b
    show l.foldl Nat.lcm (Nat.lcm (Nat.lcm b y) x) = l.foldl Nat.lcm (Nat.lcm (Nat.lcm b x) y)
    rw [lcm_comm3]
  | trans _ _ h1 h2 => exact fun b => (h1 b).trans (h2 b)
theorem sum_perm {l l' : List Nat} (h : l.Perm l') : l.sum = l'.sum := by
  induction h with
  | nil => rfl
  | cons x _ ih => rw [List.sum_cons, List.sum_cons, ih]
  | swap x y l =>
    rw [List.sum_cons, List.sum_cons, List.sum_cons, List.sum_cons]
    omega
  | trans _ _ h1 h2 => exact h1.trans h2
theorem GoodMs.perm {l l' : List Nat} (h : l'.Perm l) (k : GoodMs l) : GoodMs l' := by
  have e : lcmL l' = lcmL l := lcm_perm h 1
  refine ⟨⟨by rw [h.length_eq]; exact k.mo.lo, by rw [h.length_eq]; exact k.mo.hi, fun m hm => k.mo.each m (h.mem_iff.mp hm), by rw [e]; exact k.mo.lcm⟩, ?_, by rw [h.length_eq]; exact k.ln⟩
  unfold TellOk widths
  rw [e, sum_perm (h.map _)]
  exact k.te
def unnat : D → Nat
  | .int i => i.toNat
  | _ => 0
theorem perm_nats {ys : List D} {l : List Nat} (h : ys.Perm (natsD l)) : ∃ l', ys = natsD l' ∧ l'.Perm l := by
  refine ⟨ys.map unnat, ?_, ?_⟩
  · unfold natsD
    rw [List.map_map]
    have e : ys.map (natD ∘ unnat) = ys.map id := List.map_congr_left fun d hd => by
      obtain ⟨n, _, rfl⟩ := List.mem_map.mp (h.mem_iff.mp hd)
      show natD (((n : Int)).toNat) = natD n
      rw [Int.toNat_natCast]
    rw [e, List.map_id]
  · have := h.map unnat
    unfold natsD at this
    rw [List.map_map] at this
    exact this.trans (by rw [show (unnat ∘ natD) = id from funext fun n => Int.toNat_natCast n, List.map_id])
theorem lcm_fold_le : ∀ {ms : List Nat} {b : Nat}, (∀ m ∈ ms, m ≤ 60) → ms.foldl Nat.lcm b ≤ b * 60 ^ ms.length
  | [], b, _ => by simp
  | m :: ms, b, h => by
    have h1 := lcm_fold_le (ms := ms) (b := Nat.lcm b m) fun x hx => h x (List.mem_cons_of_mem _ hx)
    have h2 : Nat.lcm b m ≤ b * 60 := Nat.le_trans (Nat.div_le_self _ _) (Nat.mul_le_mul_left _ (h m List.mem_cons_self))
    refine Nat.le_trans h1 ?_
    rw [List.length_cons, Nat.pow_succ, Nat.mul_comm (60 ^ ms.length), ← Nat.mul_assoc]
    exact Nat.mul_le_mul_right _ h2
theorem good_wide {l : List Nat} {k : Nat} (hk : 2 ≤ k) (hk2 : k ≤ 5) (hl : l.length = k) (h : ∀ m ∈ l, k ≤ m ∧ m ≤ 60) : GoodMs l := by
  have hL : lcmL l ≤ 1000000000 := by
    refine Nat.le_trans (lcm_fold_le (fun m hm => (h m hm).2)) ?_
    rw [hl, Nat.one_mul]
    exact Nat.le_trans (Nat.pow_le_pow_right (by decide) hk2) (by decide)
  refine ⟨⟨by omega, by omega, fun m hm => ⟨by have := (h m hm).1; omega, (h m hm).2⟩, hL⟩, ?_, by omega⟩
  unfold TellOk
  have h1 : (widths l).sum ≤ (widths l).length * (lcmL l / k) := sum_le fun x hx => by
    obtain ⟨m, hm, rfl⟩ := List.mem_map.mp hx
    exact Nat.div_le_div_left (h m hm).1 (by omega)
  refine Nat.le_trans h1 ?_
  unfold widths
  rw [List.length_map, hl]
  exact Nat.mul_div_le _ _
def goodB (l : List Nat) : Bool := decide (2 ≤ l.length ∧ l.length ≤ 5 ∧ lcmL l ≤ 1000000000 ∧ (widths l).sum ≤ lcmL l) && l.all fun m => decide (1 ≤ m ∧ m ≤ 60)
theorem good_of {l : List Nat} (h : goodB l = true) : GoodMs l := by
  obtain ⟨h1, h2⟩ := Bool.and_eq_true_iff.mp h
  obtain ⟨a, b, c, d⟩ := of_decide_eq_true h1
  exact ⟨⟨a, by omega, fun m hm => of_decide_eq_true (List.all_eq_true.mp h2 m hm), c⟩, d, b⟩
def sp__law_marks : DSp := fun ds M Q _ => ∃ b, ∃ G S : Nat, ds = [.ref b] ∧ M b = some (boxO G S) ∧ ∀ ms, ∀ G' S' : Nat, GoodMs ms → Q (.lst (natsD ms)) (mup M b (boxO G' S'))
theorem good_rep {k r : Nat} (hk : 2 ≤ k) (hk2 : k ≤ 5) (hr : r < 3) : GoodMs (List.replicate k (k + r)) := good_wide hk hk2 (List.length_replicate ..) fun m hm => by
  rw [List.eq_of_mem_replicate hm]
  omega
theorem good_two {k : Nat} (hk : 2 ≤ k) (hk2 : k ≤ 5) : GoodMs (List.take k [2, 4, 8, 16, 32]) := by
  refine good_of ?_
  obtain rfl | rfl | rfl | rfl : k = 2 ∨ k = 3 ∨ k = 4 ∨ k = 5 := by omega
  all_goals decide +kernel
def tights : List (List Nat) := [[2, 2], [2, 3, 6], [2, 4, 4], [3, 3, 3], [2, 3, 7, 42], [2, 3, 10, 15], [2, 4, 6, 12], [2, 6, 6, 12, 12]]
theorem good_tight {l : List Nat} (h : l ∈ tights) : GoodMs l := good_of (List.all_eq_true.mp (show tights.all goodB = true by decide +kernel) l h)
theorem ok__law_marks (T : Tb g) : Kn g "_law_marks" 3 ["_law_box_here"] sp__law_marks := by
  refine T.k__law_marks fun f fd F => fn_def (N := ["_law_box_here", "_law_many", "_law_style", "_law_tight", "_law_hand_here"]) F ⟨rfl, rfl, rfl, by decide +kernel, rfl, by decide +kernel, by decide +kernel⟩ (by rintro _ _ _ _ ⟨_, _, _, rfl, _⟩; rfl) ?_
  rintro _ M Qd Ed cd ⟨b, G, S, rfl, hM, q⟩
  refine sxs_cons ?_
  refine sx_asg (hw := by walk_at "sw") ?_
  refine ex_tup ?_
  refine ax2 ?_
  refine ex_add ?_
  refine ex_int ?_
  refine ex_call (ok__law_take T) (Nat.le_of_ble_eq_true rfl) rfl ?_
  refine ax2 ?_
  refine ex_name (i := 0) rfl rfl rfl ?_
  refine ex_int ?_
  refine ⟨b, G, S, 4, rfl, hM, by decide, by decide, fun r G1 S1 hr => ?_⟩
  refine v_add_nat (m := 2) ?_
  refine ex_call (ok__law_take T) (Nat.le_of_ble_eq_true rfl) rfl ?_
  refine ax2 ?_
  refine ex_name (i := 0) rfl rfl rfl ?_
  refine ex_int ?_
  refine ⟨b, G1, S1, 4, rfl, mup_same, by decide, by decide, fun sty G2 S2 hs => ?_⟩
  rw [mup_mup]
  obtain ⟨k, hk⟩ : ∃ k, k = 2 + r := ⟨_, rfl⟩
  rw [← hk]
  have k2 : 2 ≤ k := by omega
  have k5 : k ≤ 5 := by omega
  clear hk hr
  refine ⟨by show 2 ≤ sizeLine; decide, ?_⟩
  refine gx_tup (n := 2) ⟨_, rfl, rfl, ?_⟩
  refine gxs_cons ?_
  refine gx_name (i := 1) rfl rfl ?_
  refine gxs_cons ?_
  refine gx_name (i := 2) rfl rfl ?_
  refine gxs_nil ?_
  refine sxs_cons ?_
  refine sx_if ?_
  refine tx_eq ?_
  refine ex_name (i := 2) rfl rfl rfl ?_
  refine ex_int ?_
  refine v_eq_nat (n := 0) ?_
  refine v_bl ?_
  refine cnd (fun hb => ?_) fun hb => ?_
  ·
    refine sxs_one ?_
    refine sx_ret ?_
    refine ex_mul ?_
    refine ex_lst ?_
    refine ax1 ?_
    refine ex_add ?_
    refine ex_name (i := 1) rfl rfl rfl ?_
    refine ex_call (ok__law_take T) (Nat.le_of_ble_eq_true rfl) rfl ?_
    refine ax2 ?_
    refine ex_name (i := 0) rfl rfl rfl ?_
    refine ex_int ?_
    refine ⟨b, G2, S2, 3, rfl, mup_same, by decide, by decide, fun r G3 S3 hr => ?_⟩
    rw [mup_mup]
    refine v_add_nat ?_
    refine ⟨by show 1 ≤ sizeLine; decide, ?_⟩
    refine ex_name (i := 1) rfl rfl rfl ?_
    have hz := sizeLine_eq
    refine ⟨[natD (k + r)], rfl, by omega, by omega, by rw [Int.toNat_natCast, List.length_singleton]; omega, ?_⟩
    have e : (List.replicate ((k : Int)).toNat [natD (k + r)]).flatten = natsD (List.replicate k (k + r)) := by
      rw [Int.toNat_natCast]
      unfold natsD
      rw [List.map_replicate]
      exact List.flatten_replicate_singleton
    rw [e]
    exact rt_of (q _ _ _ (good_rep k2 k5 hr))
  · refine sxs_nil ?_
    refine sxs_cons ?_
    refine sx_if ?_
    refine tx_eq ?_
    refine ex_name (i := 2) rfl rfl rfl ?_
    refine ex_int ?_
    refine v_eq_nat (n := 1) ?_
    refine v_bl ?_
    refine cnd (fun hb => ?_) fun hb => ?_
    ·
      refine sxs_cons ?_
      generalize hE : Expr.List _ _ = eL
      refine sx_set (i := 3) (hs := by intro _; subst hE; rfl) rfl rfl ?_
      subst hE
      refine ex_lst ?_
      refine ax_cons ?_
      refine ex_tup ?_
      refine ax2 ?_
      refine ex_int ?_
      refine ex_int ?_
      refine ⟨by show 2 ≤ sizeLine; decide, ?_⟩
      refine ax_cons ?_
      refine ex_tup ?_
      refine ax3 ?_
      refine ex_int ?_
      refine ex_int ?_
      refine ex_int ?_
      refine ⟨by show 3 ≤ sizeLine; decide, ?_⟩
      refine ax_cons ?_
      refine ex_tup ?_
      refine ax3 ?_
      refine ex_int ?_
      refine ex_int ?_
      refine ex_int ?_
      refine ⟨by show 3 ≤ sizeLine; decide, ?_⟩
      refine ax_cons ?_
      refine ex_tup ?_
      refine ax3 ?_
      refine ex_int ?_
      refine ex_int ?_
      refine ex_int ?_
      refine ⟨by show 3 ≤ sizeLine; decide, ?_⟩
      refine ax_cons ?_
      refine ex_tup ?_
      refine ax4 ?_
      refine ex_int ?_
      refine ex_int ?_
      refine ex_int ?_
      refine ex_int ?_
      refine ⟨by show 4 ≤ sizeLine; decide, ?_⟩
      refine ax_cons ?_
      refine ex_tup ?_
      refine ax4 ?_
      refine ex_int ?_
      refine ex_int ?_
      refine ex_int ?_
      refine ex_int ?_
      refine ⟨by show 4 ≤ sizeLine; decide, ?_⟩
      refine ax_cons ?_
      refine ex_tup ?_
      refine ax4 ?_
      refine ex_int ?_
      refine ex_int ?_
      refine ex_int ?_
      refine ex_int ?_
      refine ⟨by show 4 ≤ sizeLine; decide, ?_⟩
      refine ax_cons ?_
      refine ex_tup ?_
      refine ax5 ?_
      refine ex_int ?_
      refine ex_int ?_
      refine ex_int ?_
      refine ex_int ?_
      refine ex_int ?_
      refine ⟨by show 5 ≤ sizeLine; decide, ?_⟩
      refine ax_nil ?_
      refine ⟨by show 8 ≤ sizeLine; decide, ?_⟩
      refine sxs_one ?_
      refine sx_ret ?_
      refine ex_call (ok__law_mixed T) (Nat.le_of_ble_eq_true rfl) rfl ?_
      refine ax2 ?_
      refine ex_name (i := 0) rfl rfl rfl ?_
      refine ex_call (ok__law_pick T) (Nat.le_of_ble_eq_true rfl) rfl ?_
      refine ax2 ?_
      refine ex_name (i := 0) rfl rfl rfl ?_
      refine ex_name (i := 3) rfl rfl rfl ?_
      refine ⟨b, G2, S2, _, tights.map fun l => .tup (natsD l), rfl, mup_same, .inl rfl, by decide, by decide, fun d G3 S3 hd => ?_⟩
      obtain ⟨l, hl, rfl⟩ := List.mem_map.mp hd
      have gl := good_tight hl
      have := gl.ln
      refine ⟨b, G3, S3, _, natsD l, rfl, mup_same, .inr rfl, by rw [natsD_len]; omega, fun ys G4 S4 hp => ?_⟩
      rw [mup_mup, mup_mup]
      obtain ⟨l', rfl, hp'⟩ := perm_nats hp
      exact rt_of (q _ _ _ (gl.perm hp'))
    · refine sxs_nil ?_
      refine sxs_cons ?_
      refine sx_if ?_
      refine tx_eq ?_
      refine ex_name (i := 2) rfl rfl rfl ?_
      refine ex_int ?_
      refine v_eq_nat (n := 2) ?_
      refine v_bl ?_
      refine cnd (fun hb => ?_) fun hb => ?_
      ·
        refine sxs_one ?_
        refine sx_ret ?_
        refine ex_call (ok__law_mixed T) (Nat.le_of_ble_eq_true rfl) rfl ?_
        refine ax2 ?_
        refine ex_name (i := 0) rfl rfl rfl ?_
        refine ex_slice ?_
        refine ex_lst ?_
        refine ax5 ?_
        refine ex_int ?_
        refine ex_int ?_
        refine ex_int ?_
        refine ex_int ?_
        refine ex_int ?_
        refine ⟨by show 5 ≤ sizeLine; decide, ?_⟩
        refine v_o_none ?_
        refine v_o_some ?_
        refine ex_name (i := 1) rfl rfl rfl ?_
        refine ⟨_, rfl, ?_⟩
        refine v_sl_lst ?_
        rw [cut_take (by exact k5)]
        have gl := good_two k2 k5
        have := gl.ln
        refine ⟨b, G2, S2, _, natsD (List.take k [2, 4, 8, 16, 32]), rfl, mup_same, .inl (by unfold natsD; rw [List.map_take]; rfl), by rw [natsD_len]; omega, fun ys G4 S4 hp => ?_⟩
        rw [mup_mup]
        obtain ⟨l', rfl, hp'⟩ := perm_nats hp
        exact rt_of (q _ _ _ (gl.perm hp'))
      · refine sxs_nil ?_
        refine sxs_one ?_
        refine sx_ret ?_
        refine ex_lcF (own := [("_law_hand_here", 4)]) (by kernel_rfl) ?_
        refine ix_rng1 rfl T.f_range ?_
        refine ex_name (i := 1) rfl rfl rfl ?_
        refine ⟨_, rfl, by omega, by omega, ?_⟩
        rw [rngD_zero, Int.toNat_natCast]
        refine lc_box (P := fun d => ∃ m, d = natD m ∧ k ≤ m ∧ m ≤ 60) (G := G2) (S := S2) mup_same (by rw [List.length_range]; omega) (fun _ => trivial) (fun x hx M' G3 S3 hM3 => ?_) fun ds G3 S3 hl hP => ?_
        · refine gw_name (i := 4) rfl rfl (by decide) ?_
          refine ⟨rfl, ?_⟩
          refine ex_add ?_
          refine ex_name (i := 1) rfl rfl rfl ?_
          refine ex_call (ok__law_take T) (Nat.le_of_ble_eq_true rfl) rfl ?_
          refine ax2 ?_
          refine ex_name (i := 0) rfl rfl rfl ?_
          refine ex_call (ok__law_pick T) (Nat.le_of_ble_eq_true rfl) rfl ?_
          refine ax2 ?_
          refine ex_name (i := 0) rfl rfl rfl ?_
          refine ex_lst ?_
          refine ax2 ?_
          refine ex_int ?_
          refine ex_sub ?_
          refine ex_int ?_
          refine ex_name (i := 1) rfl rfl rfl ?_
          refine v_sub_nat (m := 61) (by omega) ?_
          refine ⟨by show 2 ≤ sizeLine; decide, ?_⟩
          refine ⟨b, G3, S3, _, natsD [8, 61 - k], rfl, hM3, .inl rfl, by show 0 < 2; decide, by show 2 < 1000000; decide, fun d G4 S4 hd => ?_⟩
          obtain ⟨n, hn, rfl⟩ := List.mem_map.mp hd
          have hn2 : 0 < n ∧ k + n ≤ 61 := by
            rcases List.mem_cons.mp hn with h | h
            · omega
            · rw [List.mem_singleton.mp h]
              omega
          refine ⟨b, G4, S4, n, rfl, mup_same, hn2.1, by omega, fun r G5 S5 hr => ?_⟩
          rw [mup_mup]
          refine v_add_nat ?_
          exact ⟨⟨_, rfl, by omega, by omega⟩, _, _, rfl⟩
        · rw [mup_mup]
          rw [List.length_range] at hl
          have e : ds = natsD (ds.map unnat) := by
            unfold natsD
            rw [List.map_map]
            refine ((List.map_congr_left (g := id) fun d hd => ?_).trans (List.map_id _)).symm
            obtain ⟨m, rfl, _⟩ := hP d hd
            show natD (((m : Int)).toNat) = natD m
            rw [Int.toNat_natCast]
          rw [e]
          refine rt_of (q _ _ _ (good_wide k2 k5 (by rw [List.length_map]; exact hl) fun m hm => ?_))
          obtain ⟨d, hd, rfl⟩ := List.mem_map.mp hm
          obtain ⟨n, rfl, h1, h2⟩ := hP d hd
          show k ≤ ((n : Int)).toNat ∧ ((n : Int)).toNat ≤ 60
          rw [Int.toNat_natCast]
          exact ⟨h1, h2⟩
end DL

set_option Elab.async false
set_option linter.all false
set_option maxRecDepth 100000
set_option maxHeartbeats 1000000
/-! # The law's heads; entering -/
namespace DL
open PySem PySem.Spec PyProof.Rows L2
open Evl (Ex)
local macro_rules | `(tactic| walk_at "sw") => `(tactic| (intro env h; obtain ⟨sc, _, _, _, _, _, _, _, _⟩ := env; (have h : sc = _ := h); subst h; rfl))
def rowsP (rows : List (List Nat)) : List PyData := rows.map fun l => .tuple (l.map fun n : Nat => .int n)
theorem toPs_nats {M : Mem} : ∀ l : List Nat, toPs M (natsD l) = some (l.map fun n : Nat => .int n)
  | [] => rfl
  | n :: l => by
    show (some (PyData.int n)).bind (fun p => (toPs M (natsD l)).map fun ps => p :: ps) = _
    rw [toPs_nats l]
    rfl
theorem toPs_rows {M : Mem} : ∀ rows : List (List Nat), toPs M (rows.map fun l => .tup (natsD l)) = some (rowsP rows)
  | [] => rfl
  | l :: rows => by
    show ((toPs M (natsD l)).map PyData.tuple).bind (fun p => (toPs M (rows.map fun l => .tup (natsD l))).map fun ps => p :: ps) = _
    rw [toPs_nats, toPs_rows rows]
    rfl
theorem lay_nats : ∀ l : List Nat, PyData.canLayAll0 (l.map fun n : Nat => .int n) = true ∧ PyData.depthAll (l.map fun n : Nat => .int n) = 0
  | [] => ⟨rfl, rfl⟩
  | n :: l => by
    obtain ⟨h1, h2⟩ := lay_nats l
    exact ⟨by simp [PyData.canLayAll0, PyData.canLay0, h1], by simp [PyData.depthAll, PyData.depth, h2]⟩
theorem lay_rows : ∀ rows : List (List Nat), PyData.canLayAll0 (rowsP rows) = true ∧ PyData.depthAll (rowsP rows) ≤ 2
  | [] => ⟨rfl, by decide⟩
  | l :: rows => by
    obtain ⟨h1, h2⟩ := lay_rows rows
    obtain ⟨h3, h4⟩ := lay_nats l
    unfold rowsP at h1 h2 ⊢
    rw [List.map_cons]
    refine ⟨by simp only [PyData.canLayAll0, PyData.canLay0, h1, h3, Bool.and_self], ?_⟩
    simp only [PyData.depthAll, PyData.depth, h4]
    omega
theorem shaped_rows (rows : List (List Nat)) : SeqAt.shaped (.list (rowsP rows)) = true := by
  obtain ⟨h1, h2⟩ := lay_rows rows
  refine Bool.and_eq_true_iff.mpr ⟨by simp only [PyData.canLay0, h1], decide_eq_true ?_⟩
  simp only [PyData.depth]
  omega
theorem v_ne_nil {M : Mem} {Q : D → Mem → Prop} {rows : List (List Nat)} (q : Q (.bl (decide (rows ≠ []))) M) : EqD not (.lst (rows.map fun l => .tup (natsD l))) (.lst []) M Q := by
  refine ⟨_, _, _, _, rfl, rfl, toPs_rows rows, toPs_rows [], shaped_rows _, shaped_rows [], ?_⟩
  cases rows with
  | nil => exact q
  | cons l rows => exact q
variable {g : Gb}
def llogD (l : List Ent) : D := .lst (l.map entD)
def llogsD (ls : List (List Ent)) : D := .lst (ls.map llogD)
theorem llog_rows (l : List Ent) : llogD l = .lst ((l.map el).map fun r => .tup (natsD r)) := by
  unfold llogD
  rw [List.map_map]
  rfl
def sp__law_heads : DSp := fun ds M Q _ => ∃ ls : List (List Ent), ds = [llogsD ls] ∧ ls.length ≤ 100 ∧ ∀ q, M q = none → Q (.ref q) (mup M q (.lst (natsD (heads ls))))
theorem ok__law_heads (T : Tb g) : Kn g "_law_heads" 1 ["_law_logs"] sp__law_heads := by
  refine T.k__law_heads fun f fd F => fn_def (N := ["_law_logs", "_law_log"]) F ⟨rfl, rfl, rfl, by decide +kernel, rfl, by decide +kernel, by decide +kernel⟩ (by rintro _ _ _ _ ⟨_, rfl, _⟩; rfl) ?_
  rintro _ M Qd Ed cd ⟨ls, rfl, hz, q⟩
  refine sxs_one ?_
  refine sx_ret ?_
  refine ex_lcN (own := [("_law_log", 1)]) (by kernel_rfl) ?_
  refine ix_lst ?_
  refine ex_name (i := 0) rfl rfl rfl ?_
  refine ⟨_, rfl, ?_⟩
  refine pur_map (xs := ls) (f := llogD) (h := fun l => natD (headOf l)) (by omega) (fun _ _ => trivial) (fun l hx M' hM' => ?_) ?_
  · refine gw_name (i := 1) rfl rfl (by decide) ?_
    refine ⟨rfl, ?_⟩
    refine ex_if ?_
    refine tx_ne ?_
    refine ex_name (i := 1) rfl rfl rfl ?_
    refine ex_lst ?_
    refine ax_nil ?_
    refine ⟨by show 0 ≤ sizeLine; decide, ?_⟩
    rw [llog_rows]
    refine v_ne_nil ?_
    refine v_bl ?_
    rcases List.eq_nil_or_concat l with rfl | ⟨l', e, rfl⟩
    · refine cnd_pf (by simp) ?_
      refine ex_int ?_
      exact ⟨rfl, rfl⟩
    · refine cnd_pt (by simp) ?_
      refine ex_ixa ?_
      refine ex_ixa ?_
      refine ex_name (i := 1) rfl rfl rfl ?_
      refine ex_neg ?_
      refine ex_int ?_
      refine v_neg_int ?_
      refine v_ix_lst (d := entD e) (by rw [List.concat_eq_append, List.map_append, List.map_append]; exact atI_last) ?_
      refine ex_int ?_
      refine v_ix_tup (d := natD e.1) rfl ?_
      refine ⟨?_, rfl⟩
      unfold headOf
      rw [List.concat_eq_append, List.getLast?_append]
      rfl
  intro p hp
  refine ⟨_, rfl, ?_⟩
  refine rt_of ?_
  have e : (ls.map fun l => natD (headOf l)) = natsD (heads ls) := by
    unfold natsD heads
    rw [List.map_map]
    rfl
  rw [e]
  exact q p hp
/-! ### the one mark -/
theorem mark_iff {m w low rest k : Int} (hm : 0 < m) (hw : 0 < w) (h0 : 0 ≤ low) (h1 : low + w ≤ m * w) (hk : 0 ≤ k) (hk2 : k < m) :
    (low ≤ (rest + k * w) % (m * w) ∧ (rest + k * w) % (m * w) < low + w) ↔ k = -((rest - low) / w) % m := by
  obtain ⟨a, ha⟩ : ∃ a, a = (rest - low) / w := ⟨_, rfl⟩
  obtain ⟨b, hb⟩ : ∃ b, b = (rest - low) % w := ⟨_, rfl⟩
  have hb0 : 0 ≤ b := by rw [hb]; exact Int.emod_nonneg _ (by omega)
  have hb1 : b < w := by rw [hb]; exact Int.emod_lt_of_pos _ hw
  have hr : rest = low + a * w + b := by
    have := Int.mul_ediv_add_emod (rest - low) w
    rw [← ha, ← hb, Int.mul_comm] at this
    omega
  rw [← ha]
  obtain ⟨j, hj⟩ : ∃ j, j = (a + k) % m := ⟨_, rfl⟩
  obtain ⟨n, hn⟩ : ∃ n, n = (a + k) / m := ⟨_, rfl⟩
  have hj0 : 0 ≤ j := by rw [hj]; exact Int.emod_nonneg _ (by omega)
  have hj1 : j < m := by rw [hj]; exact Int.emod_lt_of_pos _ hm
  have hak : a + k = m * n + j := by
    have := Int.mul_ediv_add_emod (a + k) m
    rw [← hj, ← hn] at this
    omega
  have hv : rest + k * w = (low + j * w + b) + (m * w) * n := by
    have e : (a + k) * w = (m * n + j) * w := by rw [hak]
    have e1 : (a + k) * w = a * w + k * w := Int.add_mul ..
    have e2 : (m * n + j) * w = m * w * n + j * w := by
      rw [Int.add_mul, Int.mul_assoc, Int.mul_assoc, Int.mul_comm n w]
    omega
  have hmod : (rest + k * w) % (m * w) = (low + j * w + b) % (m * w) := by
    rw [hv, Int.add_mul_emod_self_left]
  rw [hmod]
  have hkj : k = -a % m ↔ j = 0 := by
    constructor
    · intro h
      have hd : m ∣ (-a - k) := Int.dvd_of_emod_eq_zero (by rw [Int.sub_emod, h, Int.emod_emod_of_dvd _ (Int.dvd_refl m)]; simp)
      have hd2 : m ∣ (a + k) := by
        obtain ⟨c, hc⟩ := hd
        exact ⟨-c, by rw [Int.mul_neg]; omega⟩
      rw [hj]
      exact Int.emod_eq_zero_of_dvd hd2
    · intro h
      have hk3 : -a = k + m * (-n) := by rw [Int.mul_neg]; omega
      rw [hk3, Int.add_mul_emod_self_left, Int.emod_eq_of_lt hk hk2]
  rw [hkj]
  constructor
  · rintro ⟨g1, g2⟩
    by_cases hj2 : j = 0
    · exact hj2
    · have hjw : w ≤ j * w := by
        have := Int.mul_le_mul_of_nonneg_right (show 1 ≤ j by omega) (show 0 ≤ w by omega)
        omega
      have hjm : j * w + w ≤ m * w := by
        have := Int.mul_le_mul_of_nonneg_right (show j + 1 ≤ m by omega) (show 0 ≤ w by omega)
        rw [Int.add_mul] at this
        omega
      by_cases hc : low + j * w + b < m * w
      · rw [Int.emod_eq_of_lt (by omega) hc] at g1 g2
        omega
      · have e : low + j * w + b = (low + j * w + b - m * w) + m * w * 1 := by omega
        rw [e, Int.add_mul_emod_self_left, Int.emod_eq_of_lt (by omega) (by omega)] at g1 g2
        omega
  · rintro rfl
    rw [Int.zero_mul, Int.emod_eq_of_lt (by omega) (by omega)]
    omega
theorem filter_one {p : Nat → Bool} {t : Nat} : ∀ {n : Nat}, t < n → (∀ k, k < n → (p k = true ↔ k = t)) → (List.range n).filter p = [t]
  | 0, h, _ => absurd h (Nat.not_lt_zero t)
  | n + 1, h, hp => by
    rw [List.range_succ, List.filter_append]
    by_cases ht : t = n
    · subst ht
      have e1 : (List.range t).filter p = [] := List.filter_eq_nil_iff.mpr fun k hk hpk => by
        have hk := List.mem_range.mp hk
        have := (hp k (by omega)).mp hpk
        omega
      rw [e1, List.filter_cons, if_pos ((hp t (by omega)).mpr rfl)]
      rfl
    · rw [filter_one (n := n) (by omega) fun k hk => hp k (by omega), List.filter_cons, if_neg (fun hpn => ht ((hp n (by omega)).mp hpn).symm)]
      rfl
theorem laid_at : ∀ {ws : List Nat} {f h : Nat}, h < ws.length → (laid f ws).getD h (0, 0) = (f + (ws.take h).sum, f + (ws.take h).sum + ws.getD h 0)
  | [], f, h, hh => absurd hh (Nat.not_lt_zero h)
  | w :: ws, f, 0, _ => rfl
  | w :: ws, f, h + 1, hh => by
    show (laid (f + w) ws).getD h (0, 0) = _
    rw [laid_at (Nat.lt_of_succ_lt_succ hh), List.take_succ_cons, List.sum_cons]
    show _ = (_, _ + ws.getD h 0)
    congr 1 <;> omega
theorem getD_lt {α : Type} {l : List α} {i : Nat} {x : α} (h : i < l.length) : l.getD i x = l[i] := by
  rw [List.getD_eq_getElem?_getD, List.getElem?_eq_getElem h]
  rfl
theorem range_zip {f : Nat × Nat → Nat} : ∀ {xs ms : List Nat}, xs.length = ms.length → ((List.range ms.length).map fun i => f (xs.getD i 0, ms.getD i 0)) = (xs.zip ms).map f := fun {xs ms} h => by
  refine List.ext_getElem (by rw [List.length_map, List.length_map, List.length_range, List.length_zip]; omega) fun i h1 h2 => ?_
  rw [List.length_map, List.length_range] at h1
  rw [List.getElem_map, List.getElem_map, List.getElem_range, List.getElem_zip, getD_lt (by omega), getD_lt (by omega)]
theorem zip_set {f : Nat × Nat → Nat} (f0 : ∀ m, f (0, m) = 0) : ∀ {xs ms : List Nat} {h : Nat}, xs.length = ms.length → h < ms.length → (((xs.set h 0).zip ms).map f).sum + f (xs.getD h 0, ms.getD h 0) = ((xs.zip ms).map f).sum
  | [], [], h, _, hh => absurd hh (Nat.not_lt_zero h)
  | [], _ :: _, _, e, _ => by simp at e
  | _ :: _, [], _, e, _ => by simp at e
  | x :: xs, m :: ms, 0, _, _ => by
    show (f (0, m) :: ((xs.zip ms).map f)).sum + f (x, m) = (f (x, m) :: ((xs.zip ms).map f)).sum
    rw [List.sum_cons, List.sum_cons, f0]
    omega
  | x :: xs, m :: ms, h + 1, e, hh => by
    show (f (x, m) :: (((xs.set h 0).zip ms).map f)).sum + f (xs.getD h 0, ms.getD h 0) = (f (x, m) :: ((xs.zip ms).map f)).sum
    rw [List.sum_cons, List.sum_cons, ← zip_set f0 (Nat.succ.inj e) (Nat.lt_of_succ_lt_succ hh)]
    omega
def placeS (ms last : List Nat) (h : Nat) : Nat := ((List.range ms.length).map fun i => (last.set h 0).getD i 0 * (lcmL ms / ms.getD i 0)).sum
def lowOf (ms : List Nat) (h : Nat) : Nat := ((widths ms).take h).sum
theorem low_le {ms : List Nat} {h : Nat} (hh : h < ms.length) (ht : TellOk ms) : lowOf ms h + lcmL ms / ms.getD h 0 ≤ lcmL ms := by
  have hw : h < (widths ms).length := by unfold widths; rw [List.length_map]; exact hh
  have e : (widths ms).getD h 0 = lcmL ms / ms.getD h 0 := by
    unfold widths
    rw [getD_lt (by rw [List.length_map]; exact hh), getD_lt hh, List.getElem_map]
  have h2 : (widths ms).sum = ((widths ms).take (h + 1)).sum + ((widths ms).drop (h + 1)).sum := by
    rw [← List.sum_append, List.take_append_drop]
  have h3 : ((widths ms).take (h + 1)).sum = lowOf ms h + lcmL ms / ms.getD h 0 := by
    rw [← e, List.take_succ_eq_append_getElem hw, List.sum_append, getD_lt hw]
    simp [lowOf]
  unfold TellOk at ht
  omega
theorem arc_at {ms : List Nat} {h : Nat} (hh : h < ms.length) : (arcs ms).getD h (0, 0) = (lowOf ms h, lowOf ms h + lcmL ms / ms.getD h 0) := by
  unfold arcs
  rw [laid_at (by unfold widths; rw [List.length_map]; exact hh)]
  have e : (widths ms).getD h 0 = lcmL ms / ms.getD h 0 := by
    unfold widths
    rw [getD_lt (by rw [List.length_map]; exact hh), getD_lt hh, List.getElem_map]
  rw [e, Nat.zero_add]
  rfl
theorem turned_eq {ms last : List Nat} {h : Nat} (hl : last.length = ms.length) (hh : h < ms.length) :
    turnedI ms last h = -((((placeS ms last h % lcmL ms : Nat) : Int) - (lowOf ms h : Int)) / ((lcmL ms / ms.getD h 0 : Nat) : Int)) % (ms.getD h 0 : Int) := by
  have e : ((last.zip ms).map fun z => z.1 * (lcmL ms / z.2)).sum = placeS ms last h + last.getD h 0 * (lcmL ms / ms.getD h 0) := by
    rw [← zip_set (f := fun z => z.1 * (lcmL ms / z.2)) (fun m => Nat.zero_mul _) hl hh]
    unfold placeS
    rw [← range_zip (f := fun z => z.1 * (lcmL ms / z.2)) (xs := last.set h 0) (by rw [List.length_set]; exact hl)]
  unfold turnedI placeOf
  rw [e, arc_at hh]
  have e2 : (((placeS ms last h + last.getD h 0 * (lcmL ms / ms.getD h 0)) % lcmL ms : Nat) : Int) - ((last.getD h 0 * (lcmL ms / ms.getD h 0) : Nat) : Int) = _ := rfl
  have e3 : ((((placeS ms last h + last.getD h 0 * (lcmL ms / ms.getD h 0)) % lcmL ms : Nat) : Int) - ((last.getD h 0 * (lcmL ms / ms.getD h 0) : Nat) : Int)) % (lcmL ms : Int) = ((placeS ms last h % lcmL ms : Nat) : Int) := by
    rw [Int.natCast_emod, Int.sub_emod, Int.emod_emod_of_dvd _ (Int.dvd_refl _), ← Int.sub_emod, Int.natCast_add, Int.natCast_emod]
    congr 1
    omega
  rw [e3]
theorem marks_one {ms last : List Nat} {h : Nat} (hm : MsOk ms) (ht : TellOk ms) (hl : last.length = ms.length) (hh : h < ms.length) :
    (List.range (ms.getD h 0)).filter (fun k => decide (lowOf ms h ≤ (placeS ms last h + k * (lcmL ms / ms.getD h 0)) % lcmL ms) && decide ((placeS ms last h + k * (lcmL ms / ms.getD h 0)) % lcmL ms < lowOf ms h + lcmL ms / ms.getD h 0)) = [turned ms last h] := by
  have hma := hm.at hh
  have hw := hm.width hh
  have hL : ms.getD h 0 * (lcmL ms / ms.getD h 0) = lcmL ms := Nat.mul_div_cancel' (lcm_dvd (List.mem_of_getElem? (getD_at hh)))
  have hLo := low_le hh ht
  have hti := turned_int (ms := ms) (last := last) (h := h) (by omega)
  refine filter_one ?_ fun k hk => ?_
  · have := Int.emod_lt_of_pos (-((((placeOf ms last : Int) - (last.getD h 0 * (lcmL ms / ms.getD h 0) : Nat)) % (lcmL ms : Int) - (((arcs ms).getD h (0, 0)).1 : Int)) / ((lcmL ms / ms.getD h 0 : Nat) : Int))) (show (0 : Int) < (ms.getD h 0 : Int) by omega)
    unfold turnedI at hti
    omega
  · rw [turned_eq hl hh] at hti
    have key := mark_iff (m := ((ms.getD h 0 : Nat) : Int)) (w := ((lcmL ms / ms.getD h 0 : Nat) : Int)) (low := (lowOf ms h : Int)) (rest := ((placeS ms last h % lcmL ms : Nat) : Int)) (k := (k : Int)) (by omega) (by omega) (by omega) (by rw [← Int.natCast_mul, hL]; omega) (by omega) (by omega)
    rw [← hti, ← Int.natCast_mul, ← Int.natCast_mul, hL, ← Int.natCast_add, ← Int.natCast_emod, Nat.mod_add_mod] at key
    rw [Bool.and_eq_true_iff, decide_eq_true_iff, decide_eq_true_iff]
    constructor
    · rintro ⟨g1, g2⟩
      have := key.mp ⟨by omega, by omega⟩
      omega
    · rintro rfl
      have := key.mpr rfl
      omega
end DL

set_option Elab.async false
set_option linter.all false
set_option maxRecDepth 100000
set_option maxHeartbeats 1000000
/-! # The law's entering -/
namespace DL
open PySem PySem.Spec PyProof.Rows L2
open Evl (Ex)
local macro_rules | `(tactic| walk_at "sw") => `(tactic| (intro env h; obtain ⟨sc, _, _, _, _, _, _, _, _⟩ := env; (have h : sc = _ := h); subst h; rfl))
section
variable {g : Gb} {c : Cz} {δ : Sl} {M : Mem} {O : Od} {pos : Pos} {e : Expr}
/-- sx_set, told of the scope -/
theorem sx_setS {i : Nat} {x : Str} {p : Pos} (hN : c.N[i]? = some x) (hx : locB c x = true) (h : EX g c e δ M fun d M1 => O.nx (δ.set i (some d)) M1) (hs : ∀ env : PySem.Env, env.scope = c.sc → swapsWith e (some (.Name x p)) pos.line env = pure false) : SX g c (.Assign [.Name x p] e pos) δ M O := by
  intro X F0 G F σ H eF st sl
  refine wS_of (ps_set (i := i) (by rw [G.N]; exact G.nd) (by rw [G.N]; exact hN) (G.loc hx).1 pe_wE (hs X.env G.sc) (G.loc hx).2) (wE_mono (h X F0 G F σ H eF st sl) fun v H1 q => ?_)
  obtain ⟨F1, M1, d, e1, st1, r, q⟩ := q
  exact ⟨F1, M1, _, e1, st1, (sl.mono e1).set r, q⟩
end
variable {g : Gb}
def sp__law_entered : DSp := fun ds M Q _ => ∃ ms, ∃ ls : List (List Ent), ∃ h, ∃ t : Nat × Nat × Nat, ds = [.lst (natsD ms), natD (lcmL ms), llogsD ls, natD h, .tup [natD t.1, natD t.2.1, natD t.2.2]] ∧ MsOk ms ∧ TellOk ms ∧ ls.length = ms.length ∧ h < ms.length ∧ (∀ l ∈ ls, l.length ≤ 900) ∧ Q (llogsD (enter ms ls h t)) M
theorem ixN_nat {n i : Nat} (h : i < n) : ixN n (i : Int) = some i := by
  unfold ixN
  rw [if_pos (by omega), if_pos (by omega), Int.toNat_natCast]
theorem ok__law_entered (T : Tb g) : Kn g "_law_entered" 2 ["_law_marks_here", "_law_size_here", "_law_logs", "_law_hand_here", "_law_told"] sp__law_entered := by
  refine T.k__law_entered fun f fd F => fn_def (N := ["_law_marks_here", "_law_size_here", "_law_logs", "_law_hand_here", "_law_told", "_law_last", "_law_place", "_law_h", "_law_low", "_law_width", "_law_many", "_law_found", "_law_mark", "_law_at", "_law_log"]) F ⟨rfl, rfl, rfl, by decide +kernel, rfl, by decide +kernel, by decide +kernel⟩ (by rintro _ _ _ _ ⟨_, _, _, _, rfl, _⟩; rfl) ?_
  rintro _ M Qd Ed cd ⟨ms, ls, h, t, rfl, hm, ht, hlen, hh, hz, q⟩
  have h8 := hm.hi
  have hpos := hm.pos
  have hlcm := hm.lcm
  have hma := hm.at hh
  have hwi := hm.width hh
  have hdv : ∀ m ∈ ms, lcmL ms / m ≤ 1000000000 := fun m _ => Nat.le_trans (Nat.div_le_self _ _) hlcm
  refine sxs_cons ?_
  refine sx_set (i := 5) rfl rfl ?_
  refine ex_call (ok__law_heads T) (Nat.le_of_ble_eq_true rfl) rfl ?_
  refine ax1 ?_
  refine ex_name (i := 2) rfl rfl rfl ?_
  refine ⟨ls, rfl, by omega, fun p hp => ?_⟩
  refine sxs_cons ?_
  refine sx_asg ?_
  refine ex_int ?_
  refine gx_sub ?_
  refine ex_name (i := 5) rfl rfl rfl ?_
  refine ex_name (i := 3) rfl rfl rfl ?_
  refine ⟨p, natsD (heads ls), (h : Int), h, rfl, rfl, mup_same, ixN_nat (by rw [natsD_len, heads_len, hlen]; exact hh), ?_⟩
  rw [mup_mup]
  have e1 : (natsD (heads ls)).set h (.int 0) = natsD ((heads ls).set h 0) := by
    unfold natsD
    rw [List.map_set]
    rfl
  rw [e1]
  have hll : ((heads ls).set h 0).length = ms.length := by rw [List.length_set, heads_len, hlen]
  refine sxs_cons ?_
  refine sx_set (i := 6) rfl rfl ?_
  refine ex_sum rfl T.f_sum ?_
  refine ex_lcP (own := [("_law_h", 7)]) (by kernel_rfl) ?_
  refine ix_rng1 rfl T.f_range ?_
  refine ex_len rfl T.f_len ?_
  refine ex_name (i := 0) rfl rfl rfl ?_
  refine v_len_lst ?_
  rw [natsD_len]
  refine ⟨_, rfl, by omega, by omega, ?_⟩
  rw [rngD_zero, Int.toNat_natCast]
  refine pur_map (h := fun i => natD (((heads ls).set h 0).getD i 0 * (lcmL ms / ms.getD i 0))) (by rw [List.length_range]; omega) (fun _ _ => trivial) (fun i hx M' hM' => ?_) ?_
  · have hi := List.mem_range.mp hx
    have hmi := hm.at hi
    have hwi := hm.width hi
    refine gw_name (i := 7) rfl rfl (by decide) ?_
    refine ⟨rfl, ?_⟩
    refine ex_mul ?_
    refine ex_ixa ?_
    refine ex_name (i := 5) rfl rfl rfl ?_
    refine ex_name (i := 7) rfl rfl rfl ?_
    refine v_ix_ref (hM' p _ mup_same) (natsD_at (by rw [hll]; exact hi)) ?_
    refine ex_fdiv ?_
    refine ex_name (i := 1) rfl rfl rfl ?_
    refine ex_ixa ?_
    refine ex_name (i := 0) rfl rfl rfl ?_
    refine ex_name (i := 7) rfl rfl rfl ?_
    refine v_ix_lst (natsD_at hi) ?_
    refine v_fdiv_nat (by omega) (by omega) ?_
    refine v_mul_nat (.inr (by omega)) ?_
    exact ⟨rfl, rfl⟩
  refine ⟨((List.range ms.length).map fun i => ((heads ls).set h 0).getD i 0 * (lcmL ms / ms.getD i 0)).map fun n : Nat => (n : Int), ?_, ?_⟩
  · show _ = _
    rw [← natsD_ints]
    unfold natsD
    rw [List.map_map]
    rfl
  rw [sum_nats]
  refine sxs_cons ?_
  refine sx_asg (hw := by walk_at "sw") ?_
  refine ex_tup ?_
  refine ax2 ?_
  refine ex_sum rfl T.f_sum ?_
  refine ex_lcP (own := [("_law_many", 10)]) (by kernel_rfl) ?_
  refine ix_lst ?_
  refine ex_slice ?_
  refine ex_name (i := 0) rfl rfl rfl ?_
  refine v_o_none ?_
  refine v_o_some ?_
  refine ex_name (i := 3) rfl rfl rfl ?_
  refine ⟨_, rfl, ?_⟩
  refine v_sl_lst ?_
  rw [cut_take (by rw [natsD_len]; omega)]
  refine ⟨_, rfl, ?_⟩
  have e2 : (natsD ms).take h = (ms.take h).map natD := by
    unfold natsD
    rw [List.map_take]
  rw [e2]
  refine pur_map (h := fun m => natD (lcmL ms / m)) (by rw [List.length_take]; omega) (fun _ _ => trivial) (fun m hx M' hM' => ?_) ?_
  · have hx := List.mem_of_mem_take hx
    have hm1 := hm.each m hx
    have hd := hdv m hx
    refine gw_name (i := 10) rfl rfl (by decide) ?_
    refine ⟨rfl, ?_⟩
    refine ex_fdiv ?_
    refine ex_name (i := 1) rfl rfl rfl ?_
    refine ex_name (i := 10) rfl rfl rfl ?_
    refine v_fdiv_nat (by omega) (by omega) ?_
    exact ⟨rfl, rfl⟩
  refine ⟨((widths ms).take h).map fun n : Nat => (n : Int), ?_, ?_⟩
  · show _ = _
    rw [← natsD_ints]
    unfold natsD widths
    rw [← List.map_take, List.map_map]
    rfl
  rw [sum_nats]
  refine ex_fdiv ?_
  refine ex_name (i := 1) rfl rfl rfl ?_
  refine ex_ixa ?_
  refine ex_name (i := 0) rfl rfl rfl ?_
  refine ex_name (i := 3) rfl rfl rfl ?_
  refine v_ix_lst (natsD_at hh) ?_
  refine v_fdiv_nat (by omega) (by omega) ?_
  refine ⟨by show 2 ≤ sizeLine; decide, ?_⟩
  refine gx_tup (n := 2) ⟨_, rfl, rfl, ?_⟩
  refine gxs_cons ?_
  refine gx_name (i := 8) rfl rfl ?_
  refine gxs_cons ?_
  refine gx_name (i := 9) rfl rfl ?_
  refine gxs_nil ?_
  refine sxs_cons ?_
  refine sx_setS (i := 11) rfl rfl ?_ (by walk_at "sw")
  refine ex_lcP (own := [("_law_mark", 12)]) (by kernel_rfl) ?_
  refine ix_rng1 rfl T.f_range ?_
  refine ex_ixa ?_
  refine ex_name (i := 0) rfl rfl rfl ?_
  refine ex_name (i := 3) rfl rfl rfl ?_
  refine v_ix_lst (natsD_at hh) ?_
  refine ⟨_, rfl, by omega, by omega, ?_⟩
  rw [rngD_zero, Int.toNat_natCast]
  refine pur_filter (h := fun k : Nat => natD k) (pr := fun k => decide (lowOf ms h ≤ (placeS ms (heads ls) h + k * (lcmL ms / ms.getD h 0)) % lcmL ms) && decide ((placeS ms (heads ls) h + k * (lcmL ms / ms.getD h 0)) % lcmL ms < lowOf ms h + lcmL ms / ms.getD h 0)) (by rw [List.length_range]; omega) (fun _ _ => trivial) (fun k hx M' hM' => ?_) ?_
  · refine gw_name (i := 12) rfl rfl (by decide) ?_
    refine ⟨rfl, ?_⟩
    refine tx_ch (fun _ => op_le) (fun _ => op_lt) ?_
    refine ex_name (i := 8) rfl rfl rfl ?_
    refine ex_mod ?_
    refine ex_intc rfl T.f_int ?_
    refine ex_add ?_
    refine ex_name (i := 6) rfl rfl rfl ?_
    refine ex_mul ?_
    refine ex_name (i := 12) rfl rfl rfl ?_
    refine ex_name (i := 9) rfl rfl rfl ?_
    refine v_mul_nat (.inr (by omega)) ?_
    refine v_add_nat ?_
    refine v_intc ?_
    refine ex_name (i := 1) rfl rfl rfl ?_
    refine v_mod_nat hpos ?_
    have el : decide (lowOf ms h ≤ (placeS ms (heads ls) h + k * (lcmL ms / ms.getD h 0)) % lcmL ms) = decide (((lowOf ms h : Nat) : Int) ≤ (((placeS ms (heads ls) h + k * (lcmL ms / ms.getD h 0)) % lcmL ms : Nat) : Int)) := dec_nat (by omega)
    have er : decide ((placeS ms (heads ls) h + k * (lcmL ms / ms.getD h 0)) % lcmL ms < lowOf ms h + lcmL ms / ms.getD h 0) = decide ((((placeS ms (heads ls) h + k * (lcmL ms / ms.getD h 0)) % lcmL ms : Nat) : Int) < ((lowOf ms h + lcmL ms / ms.getD h 0 : Nat) : Int)) := dec_nat (by omega)
    refine v_ch (fun hc => ?_) fun hc => ?_
    · refine ex_add ?_
      refine ex_name (i := 8) rfl rfl rfl ?_
      refine ex_name (i := 9) rfl rfl rfl ?_
      refine v_add_nat ?_
      refine ⟨_, rfl, ?_⟩
      refine ⟨?_, rfl, fun _ => ?_⟩
      rotate_left
      · refine ex_name (i := 12) rfl rfl rfl ?_
        exact ⟨rfl, rfl⟩
      show _ = (decide _ && decide _)
      rw [el, er]
      have hc : decide (((lowOf ms h : Nat) : Int) ≤ (((placeS ms (heads ls) h + k * (lcmL ms / ms.getD h 0)) % lcmL ms : Nat) : Int)) = true := hc
      rw [hc, Bool.true_and]
      exact rfl
    · refine ⟨?_, rfl, fun z => by cases z⟩
      show _ = (decide _ && decide _)
      rw [el]
      have hc : decide (((lowOf ms h : Nat) : Int) ≤ (((placeS ms (heads ls) h + k * (lcmL ms / ms.getD h 0)) % lcmL ms : Nat) : Int)) = false := hc
      rw [hc, Bool.false_and]
  rw [marks_one hm ht (by rw [heads_len, hlen]) hh]
  refine sxs_one ?_
  refine sx_ret ?_
  refine ex_lcP (own := [("_law_at", 13), ("_law_log", 14)]) (by kernel_rfl) ?_
  refine ix_enL rfl T.f_enumerate ?_
  refine ex_name (i := 2) rfl rfl rfl ?_
  refine ⟨_, rfl, ?_⟩
  rw [show (0 : Int) = ((0 : Nat) : Int) from rfl, enuD_map]
  refine pur_map (h := fun z => llogD (if z.2 = h then z.1 ++ [(turned ms (heads ls) h, t)] else z.1)) (by rw [List.length_zipIdx]; omega) (fun _ _ => trivial) (fun z hx M' hM' => ?_) ?_
  · have hz1 : z.1.length ≤ 900 := hz _ (List.fst_mem_of_mem_zipIdx hx)
    refine gw_tup (n := 2) ⟨_, rfl, rfl, ?_⟩
    refine gws_cons ?_
    refine gw_name (i := 13) rfl rfl (by decide) ?_
    refine gws_cons ?_
    refine gw_name (i := 14) rfl rfl (by decide) ?_
    refine gws_nil ?_
    refine ⟨rfl, ?_⟩
    refine ex_if ?_
    refine tx_eq ?_
    refine ex_name (i := 13) rfl rfl rfl ?_
    refine ex_name (i := 3) rfl rfl rfl ?_
    refine v_eq_nat ?_
    refine v_bl ?_
    refine cnd_p (fun hb => ?_) fun hb => ?_
    · refine ex_add ?_
      refine ex_name (i := 14) rfl rfl rfl ?_
      refine ex_lst ?_
      refine ax1 ?_
      refine ex_add ?_
      refine ex_tup ?_
      refine ax1 ?_
      refine ex_ixa ?_
      refine ex_name (i := 11) rfl rfl rfl ?_
      refine ex_int ?_
      refine v_ix_lst (d := natD (turned ms (heads ls) h)) rfl ?_
      refine ⟨by show 1 ≤ sizeLine; decide, ?_⟩
      refine ex_tupc rfl T.f_tuple ?_
      refine ex_name (i := 4) rfl rfl rfl ?_
      refine ⟨_, rfl, ?_⟩
      refine v_add_tup (by show 4 ≤ sizeLine; decide) ?_
      refine ⟨by show 1 ≤ sizeLine; decide, ?_⟩
      have hz2 := sizeLine_eq
      refine v_add_lst (by rw [List.length_map, List.length_singleton]; omega) ?_
      refine ⟨?_, rfl⟩
      rw [if_pos hb]
      unfold llogD
      rw [List.map_append]
      rfl
    · refine ex_lisc rfl T.f_list ?_
      refine ex_name (i := 14) rfl rfl rfl ?_
      refine ⟨_, rfl, .inr ?_⟩
      refine ⟨?_, rfl⟩
      rw [if_neg hb]
      rfl
  refine rt_sub (MSub.new hp) ?_
  have e5 : (ls.zipIdx.map fun z => llogD (if z.2 = h then z.1 ++ [(turned ms (heads ls) h, t)] else z.1)) = (enter ms ls h t).map llogD := by
    unfold enter
    rw [← zipIdx_modify (f := fun l => l ++ [(turned ms (heads ls) h, t)]) (k := llogD) (h := h) (ls := ls) (j := 0)]
    refine List.map_congr_left fun z _ => ?_
    rw [Nat.zero_add]
    split <;> rfl
  rw [e5]
  exact q
end DL

set_option Elab.async false
set_option linter.all false
set_option maxRecDepth 100000
set_option maxHeartbeats 1000000
/-! # The law's led logs -/
namespace DL
open PySem PySem.Spec PyProof.Rows L2
open Evl (Ex)
local macro_rules | `(tactic| walk_at "sw") => `(tactic| (intro env h; obtain ⟨sc, _, _, _, _, _, _, _, _⟩ := env; (have h : sc = _ := h); subst h; rfl))
abbrev Told := Nat × Nat × Nat × Nat
def cellsAt (cs : List Nat) (ds : List Deed) : List Nat := ds.foldl (fun cs d => cs.set d.2.1 d.2.2) cs
def toldL : List Nat → List Deed → List Told
  | _, [] => []
  | cs, d :: r => (d.1, d.2.1, cs.getD d.2.1 0, d.2.2) :: toldL (cs.set d.2.1 d.2.2) r
def led (ms : List Nat) (ls : List (List Ent)) (es : List Told) : List (List Ent) := es.foldl (fun ls e => enter ms ls e.1 e.2) ls
def DOk (m k : Nat) (d : Deed) : Prop := d.1 < m ∧ d.2.1 < k ∧ d.2.2 < 1000000000
theorem toldL_app : ∀ {a b : List Deed} {cs : List Nat}, toldL cs (a ++ b) = toldL cs a ++ toldL (cellsAt cs a) b
  | [], _, _ => rfl
  | d :: a, b, cs => by
    show _ :: toldL _ (a ++ b) = _ :: (_ ++ _)
    rw [toldL_app]
    rfl
theorem toldL_len : ∀ {a : List Deed} {cs : List Nat}, (toldL cs a).length = a.length
  | [], _ => rfl
  | d :: a, cs => by
    show (toldL _ a).length + 1 = _
    rw [toldL_len]
    rfl
theorem cellsAt_app {a b : List Deed} {cs : List Nat} : cellsAt cs (a ++ b) = cellsAt (cellsAt cs a) b := List.foldl_append ..
theorem cellsAt_len : ∀ {a : List Deed} {cs : List Nat}, (cellsAt cs a).length = cs.length
  | [], _ => rfl
  | d :: a, cs => by
    show (cellsAt _ a).length = _
    rw [cellsAt_len, List.length_set]
theorem toldL_hand {m k : Nat} : ∀ {a : List Deed} {cs : List Nat}, (∀ d ∈ a, DOk m k d) → ∀ e ∈ toldL cs a, e.1 < m ∧ e.2.1 < k
  | [], _, _, e, he => by cases he
  | d :: a, cs, h, e, he => by
    rcases List.mem_cons.mp he with rfl | he
    · exact ⟨(h d List.mem_cons_self).1, (h d List.mem_cons_self).2.1⟩
    · exact toldL_hand (fun x hx => h x (List.mem_cons_of_mem _ hx)) e he
/-- what is undone comes back -/
def unset (cs : List Nat) (es : List Told) : List Nat := es.foldl (fun cs e => cs.set e.2.1 e.2.2.1) cs
theorem set_back {cs : List Nat} {i v : Nat} : (cs.set i v).set i (cs.getD i 0) = cs := by
  rw [List.set_set]
  refine List.ext_getElem (List.length_set ..) fun j h1 h2 => ?_
  by_cases hj : i = j
  · subst hj
    rw [List.getElem_set_self, getD_lt h2]
  · rw [List.getElem_set_ne hj]
theorem unset_told : ∀ {a : List Deed} {cs : List Nat}, unset (cellsAt cs a) (toldL cs a).reverse = cs
  | [], _ => rfl
  | d :: a, cs => by
    show unset (cellsAt (cs.set d.2.1 d.2.2) a) ((d.1, d.2.1, cs.getD d.2.1 0, d.2.2) :: toldL (cs.set d.2.1 d.2.2) a).reverse = cs
    rw [List.reverse_cons]
    unfold unset
    rw [List.foldl_append]
    have h := unset_told (a := a) (cs := cs.set d.2.1 d.2.2)
    unfold unset at h
    rw [h]
    exact set_back
theorem enter_len {ms : List Nat} {ls : List (List Ent)} {h : Nat} {t : Nat × Nat × Nat} : (enter ms ls h t).length = ls.length := List.length_modify ..
theorem enter_fit {ms : List Nat} {ls : List (List Ent)} {h n : Nat} {t : Nat × Nat × Nat} (hl : ∀ l ∈ ls, l.length ≤ n) : ∀ l ∈ enter ms ls h t, l.length ≤ n + 1 := fun l hx => by
  unfold enter at hx
  obtain ⟨i, hi⟩ := List.mem_iff_getElem?.mp hx
  rw [List.getElem?_modify] at hi
  obtain ⟨l', h1, h2⟩ := Option.map_eq_some_iff.mp hi
  have h3 := hl l' (List.mem_of_getElem? h1)
  split at h2
  · subst h2
    rw [List.length_append]
    exact Nat.succ_le_succ h3
  · subst h2
    omega
variable {g : Gb}
def pentD (e : Told) : D := .tup [natD e.1, .tup [natD e.2.1, natD e.2.2.1, natD e.2.2.2]]
def ldeedsD (l : List Deed) : D := .lst (l.map deedD)
def ledDone (ms first : List Nat) (dn : List Deed) : List (List Ent) := led ms (noLogs ms.length) (toldL first dn)
def ledGone (ms first : List Nat) (dn lf : List Deed) : List (List Ent) := led ms (noLogs ms.length) (toldL (cellsAt first dn) lf).reverse
def sp__law_led : DSp := fun ds M Q _ => ∃ ms first dn lf, ds = [.lst (natsD ms), natD (lcmL ms), .lst (natsD first), ldeedsD dn, ldeedsD lf] ∧ GoodMs ms ∧ first.length ≤ 20 ∧ (∀ d ∈ dn ++ lf, DOk ms.length first.length d) ∧ dn.length + lf.length ≤ 100 ∧ Q (sheetD (cellsAt first dn) (ledDone ms first dn) (ledGone ms first dn lf)) M
theorem ok__law_led (T : Tb g) : Kn g "_law_led" 3 ["_law_marks_here", "_law_size_here", "_law_first", "_law_done", "_law_left"] sp__law_led := by
  refine T.k__law_led fun f fd F => fn_def (N := ["_law_marks_here", "_law_size_here", "_law_first", "_law_done", "_law_left", "_law_cells_here", "_law_logs", "_law_gone", "_law_many", "_law_entries", "_law_hand_here", "_law_cell", "_law_number", "_law_told", "_law_log"]) F ⟨rfl, rfl, rfl, by decide +kernel, rfl, by decide +kernel, by decide +kernel⟩ (by rintro _ _ _ _ ⟨_, _, _, _, rfl, _⟩; rfl) ?_
  rintro _ M Qd Ed cd ⟨ms, first, dn, lf, rfl, gm, hf, hd, hdl, q⟩
  have hm := gm.mo
  have h8 := hm.hi
  have hz2 := sizeLine_eq
  refine sxs_cons ?_
  refine sx_par3 (i := 5) (j := 6) (l := 7) rfl rfl rfl (by decide) (by decide) (by decide) rfl rfl rfl (by walk_at "sw") ?_
  refine ax3 ?_
  refine ex_lisc rfl T.f_list ?_
  refine ex_name (i := 2) rfl rfl rfl ?_
  refine ⟨_, rfl, .inl fun ac hq => ?_⟩
  have eN : (ms.map fun _ => D.lst []) = (noLogs ms.length).map llogD := by
    rw [List.map_replicate, ← List.map_const']
    rfl
  refine ex_lcP (own := [("_law_many", 8)]) (by kernel_rfl) ?_
  refine ix_lst ?_
  refine ex_name (i := 0) rfl rfl rfl ?_
  refine ⟨_, rfl, ?_⟩
  refine pur_map (xs := ms) (f := natD) (h := fun _ => D.lst []) (by omega) (fun _ _ => trivial) (fun m hx M' hM' => ?_) ?_
  · refine gw_name (i := 8) rfl rfl (by decide) ?_
    refine ⟨rfl, ?_⟩
    refine ex_lst ?_
    refine ax_nil ?_
    refine ⟨by show 0 ≤ sizeLine; decide, ?_⟩
    exact ⟨rfl, rfl⟩
  rw [eN]
  refine ex_lcP (own := [("_law_many", 8)]) (by kernel_rfl) ?_
  refine ix_lst ?_
  refine ex_name (i := 0) rfl rfl rfl ?_
  refine ⟨_, rfl, ?_⟩
  refine pur_map (xs := ms) (f := natD) (h := fun _ => D.lst []) (by omega) (fun _ _ => trivial) (fun m hx M' hM' => ?_) ?_
  · refine gw_name (i := 8) rfl rfl (by decide) ?_
    refine ⟨rfl, ?_⟩
    refine ex_lst ?_
    refine ax_nil ?_
    refine ⟨by show 0 ≤ sizeLine; decide, ?_⟩
    exact ⟨rfl, rfl⟩
  rw [eN]
  refine ⟨_, _, _, rfl, ?_⟩
  refine sxs_cons ?_
  refine sx_set (i := 9) rfl rfl ?_
  refine ex_lstN ?_
  refine ax_nil ?_
  refine ⟨by show 0 ≤ sizeLine; decide, fun p hp => ?_⟩
  obtain ⟨pq, hp⟩ := none_mup hp
  refine sxs_cons ?_
  refine sx_for ?_
  refine ix_lst ?_
  refine ex_add ?_
  refine ex_lisc rfl T.f_list ?_
  refine ex_name (i := 3) rfl rfl rfl ?_
  refine ⟨_, rfl, .inr ?_⟩
  refine ex_lisc rfl T.f_list ?_
  refine ex_name (i := 4) rfl rfl rfl ?_
  refine ⟨_, rfl, .inr ?_⟩
  refine v_add_lst (by rw [List.length_map, List.length_map]; omega) ?_
  rw [← List.map_append]
  refine ⟨_, rfl, ?_⟩
  refine for_walk (xs := dn ++ lf) (fun r δ' M' => ∃ es cs u v w, (∀ d ∈ r, DOk ms.length first.length d) ∧ es ++ toldL cs r = toldL first (dn ++ lf) ∧ cs.length = first.length ∧ cellsAt cs r = cellsAt first (dn ++ lf) ∧ M' = mup (mup M ac (.lst (natsD cs))) p (.lst (es.map pentD)) ∧ δ' = [some (.lst (natsD ms)), some (natD (lcmL ms)), some (.lst (natsD first)), some (ldeedsD dn), some (ldeedsD lf), some (.ref ac), some (llogsD (noLogs ms.length)), some (llogsD (noLogs ms.length)), none, some (.ref p), u, v, w, none, none]) ⟨[], first, _, _, _, hd, rfl, rfl, rfl, rfl, rfl⟩ (fun _ _ _ _ => trivial) ?_ ?_
  · rintro d r δ' M' ⟨es, cs, u, v, w, hr, he, hcl, hca, rfl, rfl⟩
    obtain ⟨d1, d2, d3⟩ := hr d List.mem_cons_self
    have hel : es.length ≤ 100 := by
      have := congrArg List.length he
      rw [List.length_append, toldL_len, toldL_len, List.length_append] at this
      omega
    refine gx_tup (n := 3) ⟨_, rfl, rfl, ?_⟩
    refine gxs_cons ?_
    refine gx_name (i := 10) rfl rfl ?_
    refine gxs_cons ?_
    refine gx_name (i := 11) rfl rfl ?_
    refine gxs_cons ?_
    refine gx_name (i := 12) rfl rfl ?_
    refine gxs_nil ?_
    refine sxs_cons ?_
    refine sx_expr ?_
    refine ex_append ?_
    refine ex_name (i := 9) rfl rfl rfl ?_
    refine ⟨_, _, rfl, mup_same, ?_⟩
    refine ex_tup ?_
    refine ax2 ?_
    refine ex_name (i := 10) rfl rfl rfl ?_
    refine ex_tup ?_
    refine ax3 ?_
    refine ex_name (i := 11) rfl rfl rfl ?_
    refine ex_ixa ?_
    refine ex_name (i := 5) rfl rfl rfl ?_
    refine ex_name (i := 11) rfl rfl rfl ?_
    refine v_ix_ref (by rw [mup_ne pq.symm]; exact mup_same) (natsD_at (by omega)) ?_
    refine ex_name (i := 12) rfl rfl rfl ?_
    refine ⟨by show 3 ≤ sizeLine; decide, ?_⟩
    refine ⟨by show 2 ≤ sizeLine; decide, ?_⟩
    refine ⟨_, mup_same, by rw [List.length_map]; omega, ?_⟩
    refine sxs_one ?_
    refine sx_asg ?_
    refine ex_name (i := 12) rfl rfl rfl ?_
    refine gx_sub ?_
    refine ex_name (i := 5) rfl rfl rfl ?_
    refine ex_name (i := 11) rfl rfl rfl ?_
    refine ⟨ac, natsD cs, _, d.2.1, rfl, rfl, by rw [mup_mup, mup_ne pq.symm]; exact mup_same, ixN_nat (by rw [natsD_len]; omega), ?_⟩
    refine ⟨es ++ [(d.1, d.2.1, cs.getD d.2.1 0, d.2.2)], cs.set d.2.1 d.2.2, _, _, _, fun x hx => hr x (List.mem_cons_of_mem _ hx), ?_, by rw [List.length_set]; exact hcl, hca, ?_, rfl⟩
    · rw [List.append_assoc]
      exact he
    · rw [mup_mup, mup_over2 pq.symm]
      congr 2
      · congr 2
        unfold natsD
        rw [List.map_set]
      · rw [List.map_append]
        rfl
  · rintro δ' M' ⟨es, cs, u, v, w, _, he, hcl, hca, rfl, rfl⟩
    have he : es = toldL first dn ++ toldL (cellsAt first dn) lf := by
      rw [← toldL_app, ← he]
      exact (List.append_nil _).symm
    have hca : cs = cellsAt (cellsAt first dn) lf := by
      rw [← cellsAt_app, ← hca]
      rfl
    subst he hca
    obtain ⟨E1, hE1⟩ : ∃ E1, E1 = toldL first dn := ⟨_, rfl⟩
    obtain ⟨E2, hE2⟩ : ∃ E2, E2 = toldL (cellsAt first dn) lf := ⟨_, rfl⟩
    have l1 : E1.length = dn.length := by rw [hE1, toldL_len]
    have l2 : E2.length = lf.length := by rw [hE2, toldL_len]
    have v1 : ∀ e ∈ E1, e.1 < ms.length ∧ e.2.1 < first.length := by
      rw [hE1]
      exact toldL_hand fun d hx => hd d (List.mem_append_left _ hx)
    have v2 : ∀ e ∈ E2, e.1 < ms.length ∧ e.2.1 < first.length := by
      rw [hE2]
      exact toldL_hand fun d hx => hd d (List.mem_append_right _ hx)
    have hback : unset (cellsAt (cellsAt first dn) lf) E2.reverse = cellsAt first dn := by
      rw [hE2]
      exact unset_told
    have q : Qd (sheetD (cellsAt first dn) (led ms (noLogs ms.length) E1) (led ms (noLogs ms.length) E2.reverse)) M := by
      rw [hE1, hE2]
      exact q
    rw [← hE1, ← hE2]
    have cut1 : cutD ((E1 ++ E2).map pentD) none (some (dn.length : Int)) = E1.map pentD := by
      rw [cut_take (by rw [List.length_map, List.length_append]; omega), ← List.map_take, List.take_append_of_le_length (by omega), List.take_of_length_le (by omega)]
    have cut2 : cutD ((E1 ++ E2).map pentD) (some (dn.length : Int)) none = E2.map pentD := by
      rw [cut_drop (by rw [List.length_map, List.length_append]; omega), ← List.map_drop, ← l1, List.drop_left]
    refine sxs_cons ?_
    refine sx_for ?_
    refine ix_lst ?_
    refine ex_slice ?_
    refine ex_name (i := 9) rfl rfl rfl ?_
    refine v_o_none ?_
    refine v_o_some ?_
    refine ex_len rfl T.f_len ?_
    refine ex_name (i := 3) rfl rfl rfl ?_
    refine v_len_lst ?_
    rw [List.length_map]
    refine ⟨_, rfl, ?_⟩
    refine ⟨_, mup_same, ?_⟩
    rw [cut1]
    refine ⟨_, rfl, ?_⟩
    refine for_walk (xs := E1) (fun r δ' M' => ∃ ls u v w z, (∀ e ∈ r, e.1 < ms.length ∧ e.2.1 < first.length) ∧ led ms ls r = led ms (noLogs ms.length) E1 ∧ ls.length = ms.length ∧ (∀ l ∈ ls, l.length ≤ E1.length - r.length) ∧ r.length ≤ E1.length ∧ M' = mup (mup M ac (.lst (natsD (cellsAt (cellsAt first dn) lf)))) p (.lst ((E1 ++ E2).map pentD)) ∧ δ' = [some (.lst (natsD ms)), some (natD (lcmL ms)), some (.lst (natsD first)), some (ldeedsD dn), some (ldeedsD lf), some (.ref ac), some (llogsD ls), some (llogsD (noLogs ms.length)), none, some (.ref p), u, v, w, z, none]) ⟨noLogs ms.length, _, _, _, _, v1, rfl, List.length_replicate .., fun l hl => by rw [List.eq_of_mem_replicate hl]; exact Nat.zero_le _, Nat.le_refl _, rfl, rfl⟩ (fun _ _ _ _ => trivial) ?_ ?_
    · rintro e r δ' M' ⟨ls, u, v, w, z, hr, hled, hll, hlz, hrl, rfl, rfl⟩
      rw [List.length_cons] at hlz hrl
      refine gx_tup (n := 2) ⟨_, rfl, rfl, ?_⟩
      refine gxs_cons ?_
      refine gx_name (i := 10) rfl rfl ?_
      refine gxs_cons ?_
      refine gx_name (i := 13) rfl rfl ?_
      refine gxs_nil ?_
      refine sxs_one ?_
      refine sx_set (i := 6) rfl rfl ?_
      refine ex_call (ok__law_entered T) (Nat.le_of_ble_eq_true rfl) rfl ?_
      refine ax5 ?_
      refine ex_name (i := 0) rfl rfl rfl ?_
      refine ex_name (i := 1) rfl rfl rfl ?_
      refine ex_name (i := 6) rfl rfl rfl ?_
      refine ex_name (i := 10) rfl rfl rfl ?_
      refine ex_name (i := 13) rfl rfl rfl ?_
      refine ⟨ms, ls, e.1, e.2, rfl, gm.mo, gm.te, hll, (hr e List.mem_cons_self).1, fun l hl => by have := hlz l hl; omega, ?_⟩
      refine ⟨enter ms ls e.1 e.2, _, _, _, _, fun x hx => hr x (List.mem_cons_of_mem _ hx), hled, by rw [enter_len]; exact hll, fun l hl => ?_, by omega, rfl, rfl⟩
      have := enter_fit hlz l hl
      omega
    · rintro δ' M' ⟨ls, u, v, w, z, _, hled, hll, _, _, rfl, rfl⟩
      have hled : ls = led ms (noLogs ms.length) E1 := hled
      subst hled
      refine sxs_cons ?_
      refine sx_for ?_
      refine ix_lst ?_
      refine ex_revL ?_
      refine ex_slice ?_
      refine ex_name (i := 9) rfl rfl rfl ?_
      refine v_o_some ?_
      refine ex_len rfl T.f_len ?_
      refine ex_name (i := 3) rfl rfl rfl ?_
      refine v_len_lst ?_
      rw [List.length_map]
      refine ⟨_, rfl, ?_⟩
      refine v_o_none ?_
      refine ⟨_, mup_same, ?_⟩
      rw [cut2]
      refine ⟨_, rfl, ?_⟩
      rw [← List.map_reverse]
      refine ⟨_, rfl, ?_⟩
      refine for_walk (xs := E2.reverse) (fun r δ' M' => ∃ ls cs u v w z, (∀ e ∈ r, e.1 < ms.length ∧ e.2.1 < first.length) ∧ led ms ls r = led ms (noLogs ms.length) E2.reverse ∧ ls.length = ms.length ∧ (∀ l ∈ ls, l.length ≤ E2.length - r.length) ∧ r.length ≤ E2.length ∧ cs.length = first.length ∧ unset cs r = cellsAt first dn ∧ M' = mup (mup M ac (.lst (natsD cs))) p (.lst ((E1 ++ E2).map pentD)) ∧ δ' = [some (.lst (natsD ms)), some (natD (lcmL ms)), some (.lst (natsD first)), some (ldeedsD dn), some (ldeedsD lf), some (.ref ac), some (llogsD (led ms (noLogs ms.length) E1)), some (llogsD ls), none, some (.ref p), u, v, w, z, none]) ⟨noLogs ms.length, _, _, _, _, _, fun e he => v2 e (List.mem_reverse.mp he), rfl, List.length_replicate .., fun l hl => by rw [List.eq_of_mem_replicate hl]; exact Nat.zero_le _, by rw [List.length_reverse]; exact Nat.le_refl _, by rw [cellsAt_len, cellsAt_len], hback, rfl, rfl⟩ (fun _ _ _ _ => trivial) ?_ ?_
      · rintro e r δ' M' ⟨ls, cs, u, v, w, z, hr, hled, hll, hlz, hrl, hcl, hun, rfl, rfl⟩
        rw [List.length_cons] at hlz hrl
        have he := hr e List.mem_cons_self
        refine gx_tup (n := 2) ⟨_, rfl, rfl, ?_⟩
        refine gxs_cons ?_
        refine gx_name (i := 10) rfl rfl ?_
        refine gxs_cons ?_
        refine gx_name (i := 13) rfl rfl ?_
        refine gxs_nil ?_
        refine sxs_cons ?_
        refine sx_set (i := 7) rfl rfl ?_
        refine ex_call (ok__law_entered T) (Nat.le_of_ble_eq_true rfl) rfl ?_
        refine ax5 ?_
        refine ex_name (i := 0) rfl rfl rfl ?_
        refine ex_name (i := 1) rfl rfl rfl ?_
        refine ex_name (i := 7) rfl rfl rfl ?_
        refine ex_name (i := 10) rfl rfl rfl ?_
        refine ex_name (i := 13) rfl rfl rfl ?_
        refine ⟨ms, ls, e.1, e.2, rfl, gm.mo, gm.te, hll, he.1, fun l hl => by have := hlz l hl; omega, ?_⟩
        refine sxs_one ?_
        refine sx_asg ?_
        refine ex_ixa ?_
        refine ex_name (i := 13) rfl rfl rfl ?_
        refine ex_int ?_
        refine v_ix_tup (d := natD e.2.2.1) rfl ?_
        refine gx_sub ?_
        refine ex_name (i := 5) rfl rfl rfl ?_
        refine ex_ixa ?_
        refine ex_name (i := 13) rfl rfl rfl ?_
        refine ex_int ?_
        refine v_ix_tup (d := natD e.2.1) rfl ?_
        refine ⟨ac, natsD cs, _, e.2.1, rfl, rfl, by rw [mup_ne pq.symm]; exact mup_same, ixN_nat (by rw [natsD_len]; omega), ?_⟩
        refine ⟨enter ms ls e.1 e.2, cs.set e.2.1 e.2.2.1, _, _, _, _, fun x hx => hr x (List.mem_cons_of_mem _ hx), hled, by rw [enter_len]; exact hll, fun l hl => ?_, by omega, by rw [List.length_set]; exact hcl, hun, ?_, rfl⟩
        · have := enter_fit hlz l hl
          omega
        · rw [mup_over2 pq.symm]
          congr 3
          unfold natsD
          rw [List.map_set]
      · rintro δ' M' ⟨ls, cs, u, v, w, z, _, hled, hll, _, _, hcl, hun, rfl, rfl⟩
        have hled : ls = led ms (noLogs ms.length) E2.reverse := hled
        have hun : cs = cellsAt first dn := hun
        subst hled hun
        have hto : ∀ ls : List (List Ent), ((ls.map llogD).map fun _ => 0).length = ls.length := fun ls => by rw [List.length_map, List.length_map]
        have one : ∀ ls : List (List Ent), ls.map logD = ls.map fun l => .tup (l.map entD) := fun ls => rfl
        refine sxs_one ?_
        refine sx_ret ?_
        refine ex_tup ?_
        refine ax3 ?_
        refine ex_tupc rfl T.f_tuple ?_
        refine ex_name (i := 5) rfl rfl rfl ?_
        refine ⟨natsD (cellsAt first dn), by show _ = _; rw [mup_ne pq.symm]; exact mup_same, ?_⟩
        refine ex_tupc rfl T.f_tuple ?_
        refine ex_lcP (own := [("_law_log", 14)]) (by kernel_rfl) ?_
        refine ix_lst ?_
        refine ex_name (i := 6) rfl rfl rfl ?_
        refine ⟨_, rfl, ?_⟩
        have led_len : ∀ es : List Told, ∀ ls : List (List Ent), (led ms ls es).length = ls.length := fun es => by
          induction es with
          | nil => exact fun _ => rfl
          | cons e es ih =>
            intro ls
            show (led ms (enter ms ls e.1 e.2) es).length = _
            rw [ih, enter_len]
        refine pur_map (f := llogD) (h := logD) (by rw [led_len, List.length_replicate]; omega) (fun _ _ => trivial) (fun l hx M' hM' => ?_) ?_
        · refine gw_name (i := 14) rfl rfl (by decide) ?_
          refine ⟨rfl, ?_⟩
          refine ex_tupc rfl T.f_tuple ?_
          refine ex_name (i := 14) rfl rfl rfl ?_
          refine ⟨_, rfl, ?_⟩
          exact ⟨rfl, rfl⟩
        refine ⟨_, rfl, ?_⟩
        refine ex_tupc rfl T.f_tuple ?_
        refine ex_lcP (own := [("_law_log", 14)]) (by kernel_rfl) ?_
        refine ix_lst ?_
        refine ex_name (i := 7) rfl rfl rfl ?_
        refine ⟨_, rfl, ?_⟩
        refine pur_map (f := llogD) (h := logD) (by rw [led_len, List.length_replicate]; omega) (fun _ _ => trivial) (fun l hx M' hM' => ?_) ?_
        · refine gw_name (i := 14) rfl rfl (by decide) ?_
          refine ⟨rfl, ?_⟩
          refine ex_tupc rfl T.f_tuple ?_
          refine ex_name (i := 14) rfl rfl rfl ?_
          refine ⟨_, rfl, ?_⟩
          exact ⟨rfl, rfl⟩
        refine ⟨_, rfl, ?_⟩
        refine ⟨by show 3 ≤ sizeLine; decide, ?_⟩
        exact rt_sub ((MSub.new hq).trans (MSub.new (by rw [mup_ne pq]; exact hp))) q
end DL

set_option Elab.async false
set_option linter.all false
set_option maxRecDepth 100000
set_option maxHeartbeats 1000000
/-! # The law's texts of rows -/
namespace DL
open PySem PySem.Spec PyProof.Rows L2
open Evl (Ex)
local macro_rules | `(tactic| walk_at "sw") => `(tactic| (intro env h; obtain ⟨sc, _, _, _, _, _, _, _, _⟩ := env; (have h : sc = _ := h); subst h; rfl))
variable {g : Gb}
def rowT (l : List Nat) : Str := Txt.join " " (l.map strN)
theorem rowT_nums {l : List Nat} (h : 0 < l.length) : numsT l = rowT l := if_pos h
def sp__law_row : DSp := fun ds M Q _ => ∃ x l, ds = [x] ∧ (x = .lst (natsD l) ∨ x = .tup (natsD l)) ∧ l.length ≤ 100 ∧ Small l ∧ Q (.str (rowT l)) M
theorem ok__law_row (T : Tb g) : Kn g "_law_row" 1 ["_law_row_here"] sp__law_row := by
  refine T.k__law_row fun f fd F => fn_def (N := ["_law_row_here", "_law_number"]) F ⟨rfl, rfl, rfl, by decide +kernel, rfl, by decide +kernel, by decide +kernel⟩ (by rintro _ _ _ _ ⟨_, _, rfl, _⟩; rfl) ?_
  rintro _ M Qd Ed cd ⟨x, l, rfl, hx, hl, hb, q⟩
  refine sxs_one ?_
  refine sx_ret ?_
  refine ex_join ?_
  refine ex_str ?_
  refine ⟨_, rfl, ?_⟩
  refine ex_lcP (own := [("_law_number", 1)]) (by kernel_rfl) ?_
  rcases hx with rfl | rfl
  · refine ix_lst ?_
    refine ex_name (i := 0) rfl rfl rfl ?_
    refine ⟨_, rfl, ?_⟩
    refine pur_map (xs := l) (f := natD) (h := fun n => .str (strN n)) (by omega) (fun _ _ => trivial) (fun n hx M' hM' => ?_) ?_
    · refine gw_name (i := 1) rfl rfl (by decide) ?_
      refine ⟨rfl, ?_⟩
      refine ex_strc rfl T.f_str ?_
      refine ex_name (i := 1) rfl rfl rfl ?_
      exact ⟨_, rfl, strN_log (hb n hx), rfl, rfl⟩
    refine ⟨l.map strN, by show _ = _; rw [List.map_map]; rfl, nums_fit hl hb, ?_⟩
    exact rt_of q
  · refine ix_tupl ?_
    refine ex_name (i := 0) rfl rfl rfl ?_
    refine ⟨_, rfl, ?_⟩
    refine pur_map (xs := l) (f := natD) (h := fun n => .str (strN n)) (by omega) (fun _ _ => trivial) (fun n hx M' hM' => ?_) ?_
    · refine gw_name (i := 1) rfl rfl (by decide) ?_
      refine ⟨rfl, ?_⟩
      refine ex_strc rfl T.f_str ?_
      refine ex_name (i := 1) rfl rfl rfl ?_
      exact ⟨_, rfl, strN_log (hb n hx), rfl, rfl⟩
    refine ⟨l.map strN, by show _ = _; rw [List.map_map]; rfl, nums_fit hl hb, ?_⟩
    exact rt_of q
def sp__law_rows : DSp := fun ds M Q _ => ∃ x, ∃ rows : List (List Nat), ds = [x] ∧ (x = .lst (rows.map fun l => .tup (natsD l)) ∨ x = .tup (rows.map fun l => .tup (natsD l))) ∧ rows.length ≤ 1000 ∧ (∀ l ∈ rows, 0 < l.length ∧ l.length ≤ 4 ∧ Small l) ∧ Q (.str (rowsT rows)) M
theorem ok__law_rows (T : Tb g) : Kn g "_law_rows" 2 ["_law_rows_here"] sp__law_rows := by
  refine T.k__law_rows fun f fd F => fn_def (N := ["_law_rows_here", "_law_row_here"]) F ⟨rfl, rfl, rfl, by decide +kernel, rfl, by decide +kernel, by decide +kernel⟩ (by rintro _ _ _ _ ⟨_, _, rfl, _⟩; rfl) ?_
  rintro _ M Qd Ed cd ⟨x, rows, rfl, hx, hl, hb, q⟩
  unfold rowsT at q
  have fit : ((rows.map numsT).map (·.length)).sum + (rows.map numsT).length * (", " : Str).length ≤ 16777216 := by
    have h1 : ((rows.map numsT).map (·.length)).sum ≤ ((rows.map numsT).map (·.length)).length * 100 := sum_le fun x hx => by
      rw [List.map_map] at hx
      obtain ⟨n, hn, rfl⟩ := List.mem_map.mp hx
      exact numsT_len (hb n hn).2.1 (hb n hn).2.2
    rw [List.length_map, List.length_map] at h1
    rw [List.length_map]
    have h2 : (", " : Str).length = 2 := by decide +kernel
    rw [h2]
    omega
  have hlen : ∀ {M : Mem} {Q : D → Mem → Prop}, Q (.int (rows.length : Int)) M → LenD x M Q := fun {M Q} k => by
    rcases hx with rfl | rfl
    · refine v_len_lst ?_
      rw [List.length_map]
      exact k
    · refine v_len_tup ?_
      rw [List.length_map]
      exact k
  refine sxs_one ?_
  refine sx_ret ?_
  refine ex_if ?_
  refine tx_gt ?_
  refine ex_len rfl T.f_len ?_
  refine ex_name (i := 0) rfl rfl rfl ?_
  refine hlen ?_
  refine ex_int ?_
  refine v_gt_nat (n := 0) ?_
  refine v_bl ?_
  refine cnd_p (fun hb1 => ?_) fun hb1 => ?_
  · rw [if_pos hb1] at q
    refine ex_join ?_
    refine ex_str ?_
    refine ⟨_, rfl, ?_⟩
    refine ex_lcP (own := [("_law_row_here", 1)]) (by kernel_rfl) ?_
    rcases hx with rfl | rfl
    · refine ix_lst ?_
      refine ex_name (i := 0) rfl rfl rfl ?_
      refine ⟨_, rfl, ?_⟩
      refine pur_map (xs := rows) (f := fun l => .tup (natsD l)) (h := fun l => .str (numsT l)) (by omega) (fun _ _ => trivial) (fun l hx M' hM' => ?_) ?_
      · refine gw_name (i := 1) rfl rfl (by decide) ?_
        refine ⟨rfl, ?_⟩
        refine ex_call (ok__law_row T) (Nat.le_of_ble_eq_true rfl) rfl ?_
        refine ax1 ?_
        refine ex_name (i := 1) rfl rfl rfl ?_
        exact ⟨_, l, rfl, .inr rfl, by have := (hb l hx).2.1; omega, (hb l hx).2.2, by rw [rowT_nums (hb l hx).1], rfl⟩
      exact ⟨rows.map numsT, by show _ = _; rw [List.map_map]; rfl, fit, rt_of q⟩
    · refine ix_tupl ?_
      refine ex_name (i := 0) rfl rfl rfl ?_
      refine ⟨_, rfl, ?_⟩
      refine pur_map (xs := rows) (f := fun l => .tup (natsD l)) (h := fun l => .str (numsT l)) (by omega) (fun _ _ => trivial) (fun l hx M' hM' => ?_) ?_
      · refine gw_name (i := 1) rfl rfl (by decide) ?_
        refine ⟨rfl, ?_⟩
        refine ex_call (ok__law_row T) (Nat.le_of_ble_eq_true rfl) rfl ?_
        refine ax1 ?_
        refine ex_name (i := 1) rfl rfl rfl ?_
        exact ⟨_, l, rfl, .inr rfl, by have := (hb l hx).2.1; omega, (hb l hx).2.2, by rw [rowT_nums (hb l hx).1], rfl⟩
      exact ⟨rows.map numsT, by show _ = _; rw [List.map_map]; rfl, fit, rt_of q⟩
  · rw [if_neg hb1] at q
    refine ex_str ?_
    exact rt_of q
def sp__law_hand : DSp := fun ds M Q _ => ∃ o : Option Nat, ds = [optD o] ∧ (∀ h, o = some h → h < 10 ^ 10) ∧ Q (.str (handT o)) M
theorem ok__law_hand (T : Tb g) : Kn g "_law_hand" 1 ["_law_hand_here"] sp__law_hand := by
  refine T.k__law_hand fun f fd F => fn_def (N := ["_law_hand_here"]) F ⟨rfl, rfl, rfl, by decide +kernel, rfl, by decide +kernel, by decide +kernel⟩ (by rintro _ _ _ _ ⟨_, rfl, _⟩; rfl) ?_
  rintro _ M Qd Ed cd ⟨o, rfl, hb, q⟩
  refine sxs_one ?_
  refine sx_ret ?_
  refine ex_if ?_
  refine tx_isN ?_
  refine ex_name (i := 0) rfl rfl rfl ?_
  cases o with
  | none =>
    refine ex_str ?_
    exact rt_of q
  | some h =>
    refine ex_strc rfl T.f_str ?_
    refine ex_name (i := 0) rfl rfl rfl ?_
    exact ⟨_, rfl, strN_log (hb h rfl), rt_of q⟩
def sp__law_cells : DSp := fun ds M Q _ => ∃ first dn, ds = [.lst (natsD first), ldeedsD dn] ∧ (∀ d ∈ dn, d.2.1 < first.length) ∧ Q (.lst (natsD (cellsAt first dn))) M
theorem ok__law_cells (T : Tb g) : Kn g "_law_cells" 1 ["_law_first", "_law_done"] sp__law_cells := by
  refine T.k__law_cells fun f fd F => fn_def (N := ["_law_first", "_law_done", "_law_cells_here", "_law_hand_here", "_law_cell", "_law_number"]) F ⟨rfl, rfl, rfl, by decide +kernel, rfl, by decide +kernel, by decide +kernel⟩ (by rintro _ _ _ _ ⟨_, _, rfl, _⟩; rfl) ?_
  rintro _ M Qd Ed cd ⟨first, dn, rfl, hd, q⟩
  refine sxs_cons ?_
  refine sx_set (i := 2) rfl rfl ?_
  refine ex_lisc rfl T.f_list ?_
  refine ex_name (i := 0) rfl rfl rfl ?_
  refine ⟨_, rfl, .inl fun p hp => ?_⟩
  refine sxs_cons ?_
  refine sx_for ?_
  refine ix_lst ?_
  refine ex_name (i := 1) rfl rfl rfl ?_
  refine ⟨_, rfl, ?_⟩
  refine for_walk (xs := dn) (fun r δ' M' => ∃ cs u v w, (∀ d ∈ r, d.2.1 < first.length) ∧ cs.length = first.length ∧ cellsAt cs r = cellsAt first dn ∧ M' = mup M p (.lst (natsD cs)) ∧ δ' = [some (.lst (natsD first)), some (ldeedsD dn), some (.ref p), u, v, w]) ⟨first, _, _, _, hd, rfl, rfl, rfl, rfl⟩ (fun _ _ _ _ => trivial) ?_ ?_
  · rintro d r δ' M' ⟨cs, u, v, w, hr, hl, hc, rfl, rfl⟩
    have h1 := hr d List.mem_cons_self
    refine gx_tup (n := 3) ⟨_, rfl, rfl, ?_⟩
    refine gxs_cons ?_
    refine gx_name (i := 3) rfl rfl ?_
    refine gxs_cons ?_
    refine gx_name (i := 4) rfl rfl ?_
    refine gxs_cons ?_
    refine gx_name (i := 5) rfl rfl ?_
    refine gxs_nil ?_
    refine sxs_one ?_
    refine sx_asg ?_
    refine ex_name (i := 5) rfl rfl rfl ?_
    refine gx_sub ?_
    refine ex_name (i := 2) rfl rfl rfl ?_
    refine ex_name (i := 4) rfl rfl rfl ?_
    refine ⟨p, natsD cs, _, d.2.1, rfl, rfl, mup_same, ixN_nat (by rw [natsD_len]; omega), ?_⟩
    refine ⟨cs.set d.2.1 d.2.2, _, _, _, fun x hx => hr x (List.mem_cons_of_mem _ hx), by rw [List.length_set]; exact hl, hc, ?_, rfl⟩
    rw [mup_mup]
    congr 2
    unfold natsD
    rw [List.map_set]
  · rintro δ' M' ⟨cs, u, v, w, _, hl, hc, rfl, rfl⟩
    have hc : cs = cellsAt first dn := hc
    subst hc
    refine sxs_one ?_
    refine sx_ret ?_
    refine EX.frz ?_
    refine ex_name (i := 2) rfl rfl rfl ?_
    refine ⟨p, rfl, .inl ⟨_, mup_same, ?_⟩⟩
    rw [mdel_mup hp]
    exact rt_of q
end DL

set_option Elab.async false
set_option linter.all false
set_option maxRecDepth 100000
set_option maxHeartbeats 1000000
/-! # The D-layer, part 15: try, its clauses one by one -/
namespace DL
open PySem PySem.Spec PyProof.Rows L2
open Evl (Ex)
/-- a caught exception lies on the ground -/
structure Ld (X : Cx) (pins : List (Addr × Obj)) (σ : L2.St) (H : Hp) (a : Addr) (cls : Value) (d : Option Addr) (s : Shared) : Prop where
  ex : ∃ (B : Heap) (sI : Shared), Inv X pins σ H sI ∧ (∀ b o, sI.heap.get? b = some o → b ∉ frs X.stack → B.get? b = some o) ∧ sI.heap.UpToSlots s.heap ∧ HandSPX.FlyingZ B (X.env :: X.outer) a (Zc cls d) s.heap ∧ H a = none ∧ s.os = sI.os ∧ AllBare s.gens
/-- the clauses hds do for it -/
def HD (X : Cx) (hds : List ExceptHandler) (D : Ends) (cls : Value) (d : Option Addr) (σ : L2.St) (H : Hp) : Prop :=
  ∀ pins a s, Ld X pins σ H a cls d s → wpAny (model X.prog X.w) X.A (handleBy (.ref a) X.env hds) (SP X pins D) X.xe s
section
variable {X : Cx} {body : List Stmt} {hds : List ExceptHandler} {h₀ : ExceptHandler} {pos : Pos} {tb : WX → TS} {W : Ends → WX}
theorem ps_try_hd (hs : X.stack = X.env :: X.outer) (hf : X.env.frame = some X.env.locals)
    (hb : ∀ (W : WX) (pn : List (Addr × Obj)) (xe : Value → Shared → Prop), Takes (X.tr pn xe) W → PassesOwn (model X.prog X.w) X.A X.env xe → PSs (X.tr pn xe) body (tb W))
    (hh : ∀ D cls d σ H, W D cls d σ H → HD X (h₀ :: hds) D cls d σ H) : PS X (.Try body (h₀ :: hds) [] [] pos) (fun D σ H => tb (W D) D σ H) := by
  refine ⟨fun pins s σ H D I h => ?_⟩
  have ok := I.ok
  have hfr : X.A.frames = some (X.env :: X.outer) := by rw [ok.frames, hs]
  refine wpAny_Try_except ?_
  refine wpAny_mono ((hb (W D) (X.pn ++ pins) (fun e s₁ => wpAny (model X.prog X.w) X.A (noteFrame e X.env) (fun _ s₂ => wpAny (model X.prog X.w) X.A (setFlight e none) (fun _ s₃ =>
    wpAny (model X.prog X.w) X.A (handleBy e X.env (h₀ :: hds)) (SP X pins D) X.xe s₃) X.xe s₂) X.xe s₁) (fun u s' xx => ?_) PassesOwn.looking).run [] s σ H D (I.toTry _) h) (fun f s1 hsp => ?_) (fun e s1 he => he)
  · obtain ⟨a, B, sI, pins', σ', H', cls, d, rfl, J', nb, up, sky, na, os, ag, w⟩ := xx
    have J : Inv X pins σ' H' sI := J'.ofTry ok
    have sky' : Sky B (X.env :: X.outer) a (Zc cls d) X.env.locals s'.heap := by rw [← hs]; exact sky
    show wpAny (model X.prog X.w) X.A (noteFrame (.ref a) X.env) _ _ _
    exact Sky.land Zc.steady hfr hf sky' fun h3 fl3 up3 => hh D cls d σ' H' w pins a _ ⟨B, sI, J, nb, up.trans up3, fl3, na, os, ag⟩
  · cases f with
    | next =>
      obtain ⟨σ', H', J', q⟩ := hsp
      exact wpAny_execs_nil ⟨σ', H', J'.ofTry ok, q⟩
    | brk =>
      obtain ⟨σ', H', J', q⟩ := hsp
      exact ⟨σ', H', J'.ofTry ok, q⟩
    | cont =>
      obtain ⟨σ', H', J', q⟩ := hsp
      exact ⟨σ', H', J'.ofTry ok, q⟩
    | ret u =>
      obtain ⟨v, σ', H', J', r, q⟩ := hsp
      exact ⟨v, σ', H', J'.ofTry ok, r, q⟩
end
section
variable {X : Cx} {pins : List (Addr × Obj)} {σ : L2.St} {H : Hp} {a : Addr} {cls : Value} {d : Option Addr} {s : Shared}
theorem Ld.inv (L : Ld X pins σ H a cls d s) : Inv X pins σ H s := by
  obtain ⟨B, sI, J, nb, up, fl, na, os, ag⟩ := L.ex
  exact J.landed nb fl.1 up os ag
/-- in the suite's context -/
theorem Ld.suite (L : Ld X pins σ H a cls d s) (hf : X.env.frame = some X.env.locals) : ∃ oe vs, s.heap.get? a = some oe ∧ Zc cls d oe ∧ oe.data = .fields vs ∧ H a = none ∧ Inv (X.suite a ((a, oe) :: (X.pn ++ pins))) [] σ H s := by
  obtain ⟨B, sI, J, nb, up, fl, na, os, ag⟩ := L.ex
  have J3 : Inv X pins σ H s := J.landed nb fl.1 up os ag
  obtain ⟨oe, vs, he, hz, hd⟩ := fl.there
  have nfr : a ∉ frs (X.env :: X.outer) := fun hm => by
    obtain ⟨_, o', e', hnf⟩ := fl.2.2.1.mem hm
    rw [he] at e'
    cases e'
    exact hnf _ hd
  have nL : a ≠ X.env.locals := fun z => nfr (List.mem_filterMap.mpr ⟨X.env, List.mem_cons_self, by rw [hf, z]⟩)
  have nF : a ∉ X.fs := fun hm => by
    obtain ⟨e, he, q⟩ := List.mem_filterMap.mp hm
    exact nfr (List.mem_filterMap.mpr ⟨e, List.mem_cons_of_mem _ he, q⟩)
  exact ⟨oe, vs, he, hz, hd, na, J3.suite he hd na nL nF⟩
/-- the flight is set again -/
theorem Ld.again {E : Value → Shared → Prop} {A : Around} {Q : Unit → Shared → Prop} (L : Ld X pins σ H a cls d s) (h : ∀ s', Ld X pins σ H a cls d s' → Q () s') : wpAny (model X.prog X.w) A (setFlight (.ref a) none) Q E s := by
  obtain ⟨B, sI, J, nb, up, fl, na, os, ag⟩ := L.ex
  exact HandSPX.lands_againZ fl fun h' fl' up' => h _ ⟨B, sI, J, nb, up.trans up', fl', na, os, ag⟩
/-- the heap grows -/
theorem Ld.grow (L : Ld X pins σ H a cls d s) {s' : Shared} (k : ∀ b o, s.heap.get? b = some o → s'.heap.get? b = some o) (os : s'.os = s.os) (ag : AllBare s'.gens) : Ld X pins σ H a cls d s' := by
  obtain ⟨B, sI, J, nb, up, ⟨f1, f2, f3, oe, vs, T, oT, ts, g1, g2, g3, g4, g5, g6, g7, g8, g9⟩, na, os1, _⟩ := L.ex
  exact ⟨B, sI, J, nb, up.trans (Heap.UpToSlots.of_keeps k), ⟨fun b o e => k b o (f1 b o e), f2, Heap.FunFrames.of_keeps (fun b o e _ => ⟨o, k b o e, rfl⟩) f3, oe, vs, T, oT, ts, k _ _ g1, g2, g3, g4, g5, g6, k _ _ g7, g8, g9⟩, na, os.trans os1, ag⟩
/-- no clause is left -/
theorem hd_nil {D : Ends} {Wout : WX} (hs : X.stack = X.env :: X.outer) (hf : X.env.frame = some X.env.locals) (tk : Takes X Wout) (w : Wout cls d σ H) : HD X [] D cls d σ H := by
  intro pins a s L
  obtain ⟨B, sI, J, nb, up, fl, na, os, ag⟩ := L.ex
  refine wpAny_handleBy_nil ?_
  obtain ⟨k1, k2, k3, oe, vs, T, oT, ts', he, hz, hd, h1, hr⟩ := id fl
  unfold PySem.passOn
  refine wpAny_bind (wpAny_field he hd h1 ?_)
  rw [if_neg (show ¬ ((Value.ref T == Value.none) = true) from by simp)]
  have fin : wpAny (model X.prog X.w) X.A (setFlight (.ref a) X.env.frame) (fun _ s4 => wpAny (model X.prog X.w) X.A (throw (.ref a) : Sem Flow) (SP X pins D) X.xe s4) X.xe s := by
    rw [hf]
    refine HandSPX.setFlight_upZ fl fun h4 hh4 up4 => wpAny_throw (tk _ _ ?_)
    exact ⟨a, B, sI, pins, σ, H, cls, d, rfl, J, nb, up.trans up4, .inr (.inr (by rw [hs]; exact hh4)), na, os, ag, w⟩
  first
    | exact wpAny_bind (wpAny_pure (wpAny_bind fin))
    | exact wpAny_bind fin
/-- a name of a class, in the clause's test -/
theorem Ld.test {x : Str} {c : Value} {np : Pos} {Q : Value → Shared → Prop} {E : Value → Shared → Prop} (hf : X.env.frame = some X.env.locals) (hc : Names X x c) (L : Ld X pins σ H a cls d s) (q : Q c s) : wpAny (model X.prog X.w) (X.A.mark (some (.ref a))) (eval (.Name x np) X.env) Q E s := by
  obtain ⟨oe, vs, _, _, _, _, S⟩ := L.suite hf
  obtain ⟨hg, hdbg, hm | ⟨hm, hv, hnn⟩⟩ := hc
  · exact ld_glob (X := X.suite a ((a, oe) :: (X.pn ++ pins))) S hg hm q hdbg
  · exact ld_blt (X := X.suite a ((a, oe) :: (X.pn ++ pins))) S hg hm hv q hnn hdbg
theorem Ld.looks (L : Ld X pins σ H a cls d s) : PySem.W.Looks (model X.prog X.w) s.heap (typeOf (.ref a)) cls := by
  obtain ⟨B, sI, J, nb, up, fl, na, os, ag⟩ := L.ex
  obtain ⟨oe, vs, he, hz, hd⟩ := fl.there
  exact fun A Q E s k q => wpAny_typeOf_ref (k _ _ he) (by rw [hz.1]; exact q)
/-- except x as n -/
theorem hd_as {D : Ends} {x n : Str} {c : Value} {i : Nat} {suite : List Stmt} {b₀ : Stmt} {np pos' : Pos} {hds : List ExceptHandler} {b : Bool} (hf : X.env.frame = some X.env.locals) (hN : X.N.Nodup) (hi : X.N[i]? = some n) (hln : X.env.kindOf n = some .local) (hc : Names X x c) (hm : PySem.W.exmOne X.K cls c = some b)
    (yes : b = true → ∀ (a : Addr) (oe : Obj) (pn : List (Addr × Obj)), Zc cls d oe → (∃ vs, oe.data = .fields vs) → H a = none → ∃ ts : TS, PSs (X.suite a ((a, oe) :: pn)) (b₀ :: suite) ts ∧ ts { nx := fun σ' H' => D.nx (σ'.set i none) H', rt := D.rt, bk := fun σ' H' => D.bk (σ'.set i none) H', ct := fun σ' H' => D.ct (σ'.set i none) H' } (σ.set i (some (.ref a))) H)
    (no : b = false → HD X hds D cls d σ H) : HD X (.ExceptHandler (some (.Name x np)) (some n) (b₀ :: suite) pos' :: hds) D cls d σ H := by
  intro pins a s L
  have hloc : Loc X.env.scope n := .inl hln
  have ok := L.inv.ok
  refine wpAny_handleBy_cons (codeAny_handlers_test ?_) (by intro q; cases q)
  refine L.test hf hc ((PySem.W.exm_one (M := model X.prog X.w) L.inv.kIn L.looks hm).here ?_)
  cases b with
  | true =>
    refine codeAny_handlers_suite_as ?_
    refine L.again fun s4 L4 => ?_
    obtain ⟨oe4, vs4, he4, hz4, hd4, na, S4⟩ := L4.suite hf
    obtain ⟨ts, hsu, hts⟩ := yes rfl a oe4 (X.pn ++ pins) hz4 ⟨_, hd4⟩ na
    refine store_ok (X := X.suite a ((a, oe4) :: (X.pn ++ pins))) (v := .ref a) S4 hN hi hloc rfl (fun s5 S5 => ?_) (.inr hln)
    refine wpAny_mono (hsu.run [] s5 _ H _ S5 hts) (fun f s6 hsp => ?_) (fun _ _ z => False.elim z)
    have end_ : ∀ {σ6 : L2.St} {H6 : Hp} {Q : Shared → Prop}, Inv (X.suite a ((a, oe4) :: (X.pn ++ pins))) [] σ6 H6 s6 → (∀ s7, Inv X pins (σ6.set i none) H6 s7 → Q s7) →
        wpAny (model X.prog X.w) X.A (do bindName X.env n .none; unbindBehindTheSuite X.env n pos') (fun _ s7 => Q s7) X.xe s6 := fun {σ6 H6 Q} S6 hq => gone_ok (S6.unsuite ok) hN hi hln hq
    cases f with
    | next =>
      obtain ⟨σ6, H6, S6, q6⟩ := hsp
      exact end_ S6 fun s7 J7 => ⟨_, _, J7, q6⟩
    | brk =>
      obtain ⟨σ6, H6, S6, q6⟩ := hsp
      exact end_ S6 fun s7 J7 => ⟨_, _, J7, q6⟩
    | cont =>
      obtain ⟨σ6, H6, S6, q6⟩ := hsp
      exact end_ S6 fun s7 J7 => ⟨_, _, J7, q6⟩
    | ret u =>
      obtain ⟨v6, σ6, H6, S6, r6, q6⟩ := hsp
      exact end_ S6 fun s7 J7 => ⟨_, _, _, J7, r6, q6⟩
  | false =>
    show wpAny _ X.A (handleBy (.ref a) X.env hds) _ _ _
    exact no rfl pins a s L
/-- except (x1, x2): what is met -/
theorem hd_tup2 {D : Ends} {x1 x2 : Str} {c1 c2 : Value} {suite : List Stmt} {b₀ : Stmt} {p1 p2 pt pos' : Pos} {kt : Nat} {hds : List ExceptHandler} (hf : X.env.frame = some X.env.locals) (hc1 : Names X x1 c1) (hc2 : Names X x2 c2) (hm : PySem.W.exmAny X.K cls [c1, c2] = some true)
    (yes : ∀ (a : Addr) (oe : Obj) (pn : List (Addr × Obj)), Zc cls d oe → (∃ vs, oe.data = .fields vs) → H a = none → ∃ ts : TS, PSs (X.suite a ((a, oe) :: pn)) (b₀ :: suite) ts ∧ ts D σ H) : HD X (.ExceptHandler (some (.Tuple [.Name x1 p1, .Name x2 p2] kt pt)) none (b₀ :: suite) pos' :: hds) D cls d σ H := by
  intro pins a s L
  have ok := L.inv.ok
  refine wpAny_handleBy_cons (codeAny_handlers_test ?_) (by intro q; cases q)
  refine wpAny_Tuple_spliced ?_
  rw [show starEach [.Name x1 p1, .Name x2 p2] X.env = [(false, eval (.Name x1 p1) X.env), (false, eval (.Name x2 p2) X.env)] from rfl]
  refine Calls.spliced_cons (L.test hf hc1 (Calls.spliced_cons (L.test hf hc2 (Calls.spliced_nil ⟨by show 2 ≤ sizeLine; decide, ?_⟩))))
  have k : ∀ b o, s.heap.get? b = some o → (s.heap.push { cls := .type "tuple", data := .seq [c1, c2].toArray }).get? b = some o := fun b o e => Heap.get?_push_of_some _ e
  have L2 := L.grow (s' := { s with heap := s.heap.push { cls := .type "tuple", data := .seq [c1, c2].toArray } }) k rfl L.inv.bare
  refine (PySem.W.exm_tup2 (M := model X.prog X.w) L2.inv.kIn L2.looks (Heap.get?_push_size _ rfl) hm).here ?_
  refine codeAny_handlers_suite ?_
  refine L2.again fun s4 L4 => ?_
  obtain ⟨oe4, vs4, he4, hz4, hd4, na, S4⟩ := L4.suite hf
  obtain ⟨ts, hsu, hts⟩ := yes a oe4 (X.pn ++ pins) hz4 ⟨_, hd4⟩ na
  refine wpAny_mono (hsu.run [] s4 _ H _ S4 hts) (fun f s6 hsp => ?_) (fun _ _ z => False.elim z)
  cases f with
  | next =>
    obtain ⟨σ6, H6, S6, q6⟩ := hsp
    exact ⟨_, _, S6.unsuite ok, q6⟩
  | brk =>
    obtain ⟨σ6, H6, S6, q6⟩ := hsp
    exact ⟨_, _, S6.unsuite ok, q6⟩
  | cont =>
    obtain ⟨σ6, H6, S6, q6⟩ := hsp
    exact ⟨_, _, S6.unsuite ok, q6⟩
  | ret u =>
    obtain ⟨v6, σ6, H6, S6, r6, q6⟩ := hsp
    exact ⟨_, _, _, S6.unsuite ok, r6, q6⟩
end
end DL

set_option Elab.async false
set_option linter.all false
set_option maxRecDepth 100000
set_option maxHeartbeats 1000000
/-! # The D-layer, part 16: try over data; facts of exceptions -/
namespace DL
open PySem PySem.Spec PyProof.Rows L2
open Evl (Ex)
section
variable {g : Gb} {c : Cz} {δ : Sl} {M : Mem} {O : Od} {pos : Pos}
theorem WofD.back {K : PySem.W.Frag} {F0 F : Hp} {E : Xd} (e : Ex F0 F) {cls : Value} {d : Option Addr} {σ : L2.St} {H : Hp} (h : WofD K F E cls d σ H) : WofD K F0 E cls d σ H := by
  obtain ⟨C, dd, ns, us, ds, F1, δ, M, h1, h2, h3, h4⟩ := h
  exact ⟨C, dd, ns, us, ds, F1, δ, M, h1, h2, e.trans h3, h4⟩
theorem Good.up {X : Cx} {F0 F : Hp} (G : Good g c X F0) (e : Ex F0 F) : Good g c X F :=
  ⟨G.prog, G.w, G.K, G.mg, G.base, G.N, G.nd, G.sc, G.knd, G.calm, G.room, G.takes.imp fun _ _ _ _ h => WofD.back e h, G.pas, G.fn, G.top, G.gd⟩
/-- try: the clauses take what the body lets out -/
theorem sx_try {bd : List Stmt} {h₀ : ExceptHandler} {hs : List ExceptHandler} (htop : c.top = true) (Ec : Xd) (hb : SXs g { c with E := Ec } bd δ M O)
    (hh : ∀ X F, Good g c X F → ∀ cls d σ H, WofD g.K F Ec cls d σ H → HD X (h₀ :: hs) (PoO g F O) cls d σ H) : SX g c (.Try bd (h₀ :: hs) [] [] pos) δ M O := by
  intro X F0 G F σ H eF st sl
  obtain ⟨t1, t2, _⟩ := G.top htop
  have GF := G.up eF
  refine wS_of (ps_try_hd (tb := fun W D σ H => (∀ cls d σ H, WofD g.K F Ec cls d σ H → W cls d σ H) ∧ ∀ X', Good g { c with E := Ec } X' F → wSs X' bd D σ H) (W := fun D cls d σ H => WofD g.K F Ec cls d σ H ∧ D = PoO g F O) t1 t2 (fun W pn xe tk pas => ⟨fun pins s σ H D I h => ?_⟩) fun D cls d σ H w => ?_) ⟨?_, ?_⟩
  · have G' : Good g { c with E := Ec } (X.tr pn xe) F := ⟨G.prog, G.w, G.K, G.mg, G.base, G.N, G.nd, G.sc, G.knd, G.calm, G.room, tk.imp h.1, pas, G.fn, G.top, G.gd⟩
    exact h.2 _ G' pins s I
  · obtain ⟨w, rfl⟩ := w
    exact hh X F GF cls d σ H w
  · exact fun cls d σ H w => ⟨w, rfl⟩
  · exact fun X' G' => hb X' F G' F σ H (Evl.Ex.refl F) st sl
end
/-- further facts of the head -/
structure Tx (g : Gb) : Prop where
  b : Tb g
  xfB : XfC g.K (ga g "BadText")
  xfN : XfC g.K (ga g "NoTelling")
  noAt : PySem.W.findIn g.K (.ref (ga g "BadText")) "at" = some none
  noTop : PySem.W.findIn g.K (.ref (ga g "NoTelling")) "top" = some none
  noBot : PySem.W.findIn g.K (.ref (ga g "NoTelling")) "bottom" = some none
  eBB : PySem.W.exmOne g.K (.ref (ga g "BadText")) (.ref (ga g "BadText")) = some true
  eNB : PySem.W.exmOne g.K (.ref (ga g "NoTelling")) (.ref (ga g "BadText")) = some false
  eNN : PySem.W.exmOne g.K (.ref (ga g "NoTelling")) (.ref (ga g "NoTelling")) = some true
  eR : PySem.W.exmAny g.K (.ref (ga g "Refused")) [.ref (ga g "LogError"), .type "KeyError"] = some true
  eH : PySem.W.exmAny g.K (.ref (ga g "NoHand")) [.ref (ga g "LogError"), .type "KeyError"] = some true
  mPl : ∃ a, g.mg "PLAIN" = some (.ref a) ∧ ∀ F, Rep g.K F (.tup (plains.map D.str)) (.ref a)
section
variable {g : Gb} {c : Cz} {δ : Sl} {M : Mem} {Q : D → Mem → Prop} {pos : Pos}
theorem Tx.x_PLAIN (T : Tx g) (hg : gloB c.sc "PLAIN" = true) (q : Q (.tup (plains.map D.str)) M) : EX g c (.Name "PLAIN" pos) δ M Q := by
  obtain ⟨a, e, h⟩ := T.mPl
  exact ex_glob (v := .ref a) hg e rfl h q
end
end DL

set_option Elab.async false
set_option linter.all false
set_option maxRecDepth 100000
set_option maxHeartbeats 1000000
/-! # Desk.say -/
namespace DL
open PySem PySem.Spec PyProof.Rows L2
open Evl (Ex)
local macro_rules | `(tactic| walk_at "sw") => `(tactic| (intro env h; obtain ⟨sc, _, _, _, _, _, _, _, _⟩ := env; (have h : sc = _ := h); subst h; rfl))
variable {g : Gb}
def SaySp (g : Gb) (p s : Addr) (ms cs : List Nat) (dn un : List (List Ent)) (ws : List Str) (M : Mem) (Q : D → Mem → Prop) (E : Addr → List Str → List D → Mem → Prop) : Prop :=
  (ws.length = 1 ∧ ws.getD 0 Str.empty ∈ plains ∧ PlainSp g p s ms cs dn un (ws.getD 0 Str.empty) M Q) ∨
  (¬ (ws.length = 1 ∧ ws.getD 0 Str.empty ∈ plains) ∧
    ((noneIn ((ws.drop 1).map toldN) = true ∧ badText g 0 E M) ∨
     (noneIn ((ws.drop 1).map toldN) = false ∧ ToldSp g s ms cs dn un (ws.getD 0 Str.empty) (valsOf ((ws.drop 1).map toldN)) M (fun d M' => (d = .non ∧ badText g 0 E M') ∨ ((∃ t, d = .str t) ∧ Q d M')) fun C _ _ M' => (C = ga g "Refused" ∨ C = ga g "NoHand") ∧ Q (.str "refused") M')))
def sp_say (g : Gb) : DSp := fun ds M Q E => ∃ p s ms cs dn un d ws, ds = [.ref p, d] ∧ DeskOk g M p s ms cs dn un ∧ ((∃ U, tyD M d U ∧ kitB U "str" = some false ∧ ws = [Str.empty]) ∨ ∃ z, d = .str z ∧ z.length ≤ 10000 ∧ ws = Txt.split z " ") ∧ SaySp g p s ms cs dn un ws M Q E
theorem in_plains (z : Str) : inV (fv (.str z)) ((plains.map D.str).map fv) = decide (z ∈ plains) := by
  have key : ∀ a b : Str, eqV (.str a) (.str b) = decide (b = a) := fun a b => by
    show (a == b) = decide (b = a)
    by_cases h : b = a
    · subst h
      simp
    · rw [decide_eq_false h]
      simpa using fun x => h x.symm
  have gen : ∀ l : List Str, inV (fv (.str z)) ((l.map D.str).map fv) = decide (z ∈ l) := fun l => by
    induction l with
    | nil => rfl
    | cons a l ih =>
      show (eqV (.str a) (.str z) || inV (fv (.str z)) ((l.map D.str).map fv)) = _
      rw [ih, key]
      by_cases h : z = a <;> by_cases h2 : z ∈ l <;> simp [h, h2]
  exact gen plains
theorem flat_strs (l : List Str) : ((l.map D.str).map fv).all flatV = true := by
  induction l with
  | nil => rfl
  | cons a l ih =>
    show (true && ((l.map D.str).map fv).all flatV) = true
    rw [ih]
    rfl
theorem PlainSp.imp {p s : Addr} {ms cs : List Nat} {dn un : List (List Ent)} {z : Str} {M : Mem} {Q Q' : D → Mem → Prop} (k : ∀ d M, Q d M → Q' d M) (h : PlainSp g p s ms cs dn un z M Q) : PlainSp g p s ms cs dn un z M Q' := by
  rcases h with ⟨h1, h⟩ | ⟨h1, h⟩ | ⟨h1, h⟩ | ⟨h1, h⟩ | ⟨first, deeds, left, a, b, c, d, e, f, h⟩
  · refine .inl ⟨h1, ?_⟩
    rcases h with ⟨h2, q⟩ | ⟨hh, l, e, a, b, c, d, q⟩
    · exact .inl ⟨h2, k _ _ q⟩
    · exact .inr ⟨hh, l, e, a, b, c, d, k _ _ q⟩
  · refine .inr (.inl ⟨h1, ?_⟩)
    rcases h with ⟨h2, q⟩ | ⟨hh, l, e, a, b, c, d, q⟩
    · exact .inl ⟨h2, k _ _ q⟩
    · exact .inr ⟨hh, l, e, a, b, c, d, k _ _ q⟩
  · exact .inr (.inr (.inl ⟨h1, k _ _ h⟩))
  · exact .inr (.inr (.inr (.inl ⟨h1, k _ _ h⟩)))
  · refine .inr (.inr (.inr (.inr ⟨first, deeds, left, a, b, c, d, e, f, ?_⟩)))
    rcases h with ⟨h1, q⟩ | ⟨h1, q⟩ | ⟨h1, q⟩ | ⟨h1, q⟩
    · exact .inl ⟨h1, fun s2 hs => k _ _ (q s2 hs)⟩
    · exact .inr (.inl ⟨h1, k _ _ q⟩)
    · exact .inr (.inr (.inl ⟨h1, k _ _ q⟩))
    · exact .inr (.inr (.inr ⟨h1, k _ _ q⟩))
theorem ToldSp.imp {s : Addr} {ms cs : List Nat} {dn un : List (List Ent)} {z : Str} {ns : List Nat} {M : Mem} {Q Q' : D → Mem → Prop} {E E' : Addr → List Str → List D → Mem → Prop} (k : ∀ d M, Q d M → Q' d M) (kE : ∀ C ns ds M, E C ns ds M → E' C ns ds M)
    (h : ToldSp g s ms cs dn un z ns M Q E) : ToldSp g s ms cs dn un z ns M Q' E' := by
  rcases h with ⟨h1, h, c, n, a, b, q1, q2, q3⟩ | ⟨h1, j, a, q1, q2⟩ | ⟨h1, j, a, q1, q2⟩ | ⟨a, b, q⟩
  · exact .inl ⟨h1, h, c, n, a, b, fun x y => k _ _ (q1 x y), fun x y => kE _ _ _ _ (q2 x y), fun x => kE _ _ _ _ (q3 x)⟩
  · exact .inr (.inl ⟨h1, j, a, fun x => k _ _ (q1 x), fun x => k _ _ (q2 x)⟩)
  · exact .inr (.inr (.inl ⟨h1, j, a, fun x => k _ _ (q1 x), fun x => k _ _ (q2 x)⟩))
  · exact .inr (.inr (.inr ⟨a, b, k _ _ q⟩))
theorem fok_Desk_say (T : Tx g) {f : Addr} {fd : FuncData} (F : Fun g.K "say" "Desk.say" (inClass (topS 72) 3) f fd) : Fok g 12 f fd ["self", "line"] (sp_say g) := by
  refine fn_def (N := ["self", "line", "words", "numbers", "word", "said"]) F ⟨rfl, rfl, rfl, by decide +kernel, rfl, by decide +kernel, by decide +kernel⟩ (by rintro _ _ _ _ ⟨_, _, _, _, _, _, _, _, rfl, _⟩; rfl) ?_
  rintro _ M Qd Ed cd ⟨p, s, ms, cs, dn, un, d, ws, rfl, hD, hw, hS⟩
  have T' := T.b
  have hz2 := sizeLine_eq
  have hws : 1 ≤ ws.length ∧ ws.length ≤ 10001 ∧ ∀ w ∈ ws, w.length ≤ 10000 := by
    rcases hw with ⟨_, _, _, rfl⟩ | ⟨z, _, hz, rfl⟩
    · exact ⟨by decide, by decide, fun w hw => by rw [List.mem_singleton.mp hw]; decide⟩
    · exact ⟨(split_sp z).1, by have := (split_sp z).2; omega, fun w hw => Nat.le_trans (split_part (by rw [sp_ok]; decide) (by decide +kernel) hw) hz⟩
  have hat : ∀ {M : Mem} {Q : D → Mem → Prop}, Q (.str (ws.getD 0 Str.empty)) M → IxD (.lst (ws.map D.str)) (.int 0) M Q := fun {M Q} k => v_ix_lst (atI_nat (n := 0) (by rw [List.getElem?_map, getD_at (x := Str.empty) (by omega)]; rfl)) k
  refine sxs_cons ?_
  refine sx_set (i := 2) rfl rfl ?_
  refine EX.imp (Q := fun d1 M1 => d1 = .lst (ws.map D.str) ∧ M1 = M) ?_ ?_
  · refine ex_if ?_
    refine tx_val ?_
    refine ex_call (ok_is_text T') (Nat.le_of_ble_eq_true rfl) rfl ?_
    refine ax1 ?_
    refine ex_name (i := 1) rfl rfl rfl ?_
    rcases hw with ⟨U, hU, hk, rfl⟩ | ⟨z, rfl, hz, rfl⟩
    · refine ⟨_, rfl, U, false, hU, hk, ?_⟩
      refine v_bl ?_
      refine cnd_f rfl ?_
      refine ex_lst ?_
      refine ax1 ?_
      refine ex_str ?_
      exact ⟨by show 1 ≤ sizeLine; decide, rfl, rfl⟩
    · refine ⟨_, rfl, _, true, rfl, rfl, ?_⟩
      refine v_bl ?_
      refine cnd_t rfl ?_
      refine ex_split ?_
      refine ex_name (i := 1) rfl rfl rfl ?_
      refine ⟨_, rfl, ?_⟩
      refine ex_str ?_
      exact ⟨_, rfl, by decide, split_small hz, rfl, rfl⟩
  rintro _ M1 ⟨rfl, hM1⟩
  have hM1 := hM1.symm
  subst hM1
  clear hw
  refine sxs_cons ?_
  refine sx_if ?_
  refine TX.imp (Q := fun k M1 => k = decide (ws.length = 1 ∧ ws.getD 0 Str.empty ∈ plains) ∧ M1 = M) ?_ ?_
  · refine tx_w ?_
    refine wt_and ?_
    refine tx_eq ?_
    refine ex_len rfl T'.f_len ?_
    refine ex_name (i := 2) rfl rfl rfl ?_
    refine v_len_lst ?_
    rw [List.length_map]
    refine ex_int ?_
    refine v_eq_nat (n := 1) ?_
    refine v_bl ?_
    refine cnd_p (fun h1 => ?_) fun h1 => ?_
    · refine wt_and1 ?_
      refine tx_in ?_
      refine ex_ixa ?_
      refine ex_name (i := 2) rfl rfl rfl ?_
      refine ex_int ?_
      refine hat ?_
      refine T.x_PLAIN rfl ?_
      refine ⟨_, rfl, rfl, flat_strs plains, ?_⟩
      rw [in_plains]
      exact ⟨dec_nat ⟨fun h => ⟨h1, h⟩, fun h => h.2⟩, rfl⟩
    · exact ⟨(decide_eq_false fun h => h1 h.1).symm, rfl⟩
  rintro _ M1 ⟨rfl, hM1⟩
  have hM1 := hM1.symm
  subst hM1
  rcases hS with ⟨h1, h2, hP⟩ | ⟨hn, hS⟩
  · refine cnd_pt ⟨h1, h2⟩ ?_
    refine sxs_one ?_
    refine sx_ret ?_
    refine ex_meth (ok_Desk_say_plain T') T'.cls_Desk (Nat.le_of_ble_eq_true rfl) ?_
    refine ex_name (i := 0) rfl rfl rfl ?_
    refine ⟨_, _, hD.hp, by decide, ?_⟩
    refine ax1 ?_
    refine ex_ixa ?_
    refine ex_name (i := 2) rfl rfl rfl ?_
    refine ex_int ?_
    refine hat ?_
    exact ⟨p, s, ms, cs, dn, un, _, rfl, hD, hP.imp fun d M' q => rt_of q⟩
  · refine cnd_pf hn ?_
    refine sxs_nil ?_
    refine sxs_cons ?_
    refine sx_setLcP (i := 3) (hN := rfl) (hy := rfl) (hl := rfl) (ha := rfl) (own := [("word", 4)]) (by kernel_rfl) ?_
    refine ix_lst ?_
    refine ex_slice ?_
    refine ex_name (i := 2) rfl rfl rfl ?_
    refine v_o_some ?_
    refine ex_int ?_
    refine ⟨_, rfl, ?_⟩
    refine v_o_none ?_
    refine v_sl_lst ?_
    rw [show (1 : Int) = ((1 : Nat) : Int) from rfl, cut_drop (by rw [List.length_map]; omega), ← List.map_drop]
    refine ⟨_, rfl, ?_⟩
    refine pur_map (f := D.str) (h := fun w => optD (toldN w)) (by rw [List.length_drop]; omega) (fun _ _ => trivial) (fun w hx M' hM' => ?_) ?_
    · refine gw_name (i := 4) rfl rfl (by decide) ?_
      refine ⟨rfl, ?_⟩
      refine ex_call (ok_told_number T') (Nat.le_of_ble_eq_true rfl) rfl ?_
      refine ax1 ?_
      refine ex_name (i := 4) rfl rfl rfl ?_
      exact ⟨w, rfl, by have := hws.2.2 w (List.mem_of_mem_drop hx); omega, rfl, rfl⟩
    have eN : ((ws.drop 1).map fun w => optD (toldN w)) = ((ws.drop 1).map toldN).map optD := by rw [List.map_map]; rfl
    rw [eN]
    refine sxs_cons ?_
    refine sx_if ?_
    refine tx_in ?_
    refine ex_non ?_
    refine ex_name (i := 3) rfl rfl rfl ?_
    refine ⟨_, rfl, rfl, flat_opt _, ?_⟩
    rw [in_non]
    rcases hS with ⟨hb, qE⟩ | ⟨hb, hS⟩
    · refine cnd_t hb ?_
      refine sxs_one ?_
      refine T'.rBadText _ _ _ _ _ _ _ _ _ (Nat.le_of_ble_eq_true rfl) rfl rfl (fun _ => rfl) (fun _ => rfl) ?_
      refine ax1 ?_
      refine ex_int ?_
      exact ⟨rfl, M, MSub.refl M, qE⟩
    · refine cnd_f hb ?_
      refine sxs_nil ?_
      rw [vals_of hb]
      refine sxs_cons ?_
      refine sx_try rfl (fun C _ _ _ M' => (C = ga g "Refused" ∨ C = ga g "NoHand") ∧ ∃ M'', MSub M'' M' ∧ Qd (.str "refused") M'') ?_ ?_
      ·
        refine sxs_one ?_
        refine sx_set (i := 5) rfl rfl ?_
        refine ex_meth (ok_Desk_say_told T') T'.cls_Desk (Nat.le_of_ble_eq_true rfl) ?_
        refine ex_name (i := 0) rfl rfl rfl ?_
        refine ⟨_, _, hD.hp, by decide, ?_⟩
        refine ax2 ?_
        refine ex_ixa ?_
        refine ex_name (i := 2) rfl rfl rfl ?_
        refine ex_int ?_
        refine hat ?_
        refine ex_name (i := 3) rfl rfl rfl ?_
        refine ⟨p, s, ms, cs, dn, un, _, _, rfl, hD, hS.imp (fun d M' q => ?_) fun C ns ds M' q => ?_⟩
        ·
          refine sxs_cons ?_
          refine sx_if ?_
          refine tx_isN ?_
          refine ex_name (i := 5) rfl rfl rfl ?_
          rcases q with ⟨rfl, qE⟩ | ⟨⟨t, rfl⟩, q⟩
          · refine cnd_t rfl ?_
            refine sxs_one ?_
            refine T'.rBadText _ _ _ _ _ _ _ _ _ (Nat.le_of_ble_eq_true rfl) rfl rfl (fun _ => rfl) (fun _ => rfl) ?_
            refine ax1 ?_
            refine ex_int ?_
            exact ⟨rfl, M', MSub.refl M', qE⟩
          · refine cnd_f rfl ?_
            refine sxs_nil ?_
            refine sxs_one ?_
            refine sx_ret ?_
            refine ex_name (i := 5) rfl rfl rfl ?_
            exact rt_of q
        · exact ⟨q.1, M', MSub.refl M', q.2⟩
      ·
        intro X F1 G cls d' σ H w
        obtain ⟨C, dd, ns, us, ds, F2, δ2, M2, rfl, rfl, e2, st, sl, hx, hl, rs, hC, M3, sub, q⟩ := w
        have nm1 : Names X "LogError" (.ref (ga g "LogError")) := ⟨G.gl (by rfl), by decide, .inl (by rw [G.mg]; exact He.glo_ok T'.X T'.G (T'.c.fact 61 (f := .glo "LogError") rfl))⟩
        have nm2 : Names X "KeyError" (.type "KeyError") := ⟨G.gl (by rfl), by decide, .inr ⟨by rw [G.mg]; exact T'.f_KeyError, by decide +kernel, by decide⟩⟩
        refine hd_tup2 (G.top rfl).2.1 nm1 nm2 ?_ fun a oe pn hz hf na => ⟨_, pss_one (ps_ret pe_str), ?_⟩
        · rw [G.K]
          rcases hC with rfl | rfl
          · exact T.eR
          · exact T.eH
        · exact ⟨F2, M2, .str "refused", e2, st, rfl, M3, sub, q⟩
theorem ok_Desk_say (T : Tx g) : Km g (ga g "Desk") "say" 12 ["self", "line"] (sp_say g) := T.b.k_Desk_say fun f fd F => fok_Desk_say T F
end DL

set_option Elab.async false
set_option linter.all false
set_option maxRecDepth 100000
set_option maxHeartbeats 1000000
/-! # The D-layer, part 17: _law_fault(lambda: ..) -/
namespace DL
open PySem PySem.Spec PyProof.Rows L2
open Evl (Ex)
open LamX (CodeO TabS Tabs ExtN TabB LamS lamSB lamCx lamEnv GivesTo tLam)
section
variable {K : PySem.W.Frag} {F H H1 : Hp} {M : Mem}
theorem TabD.tabS {a : Addr} {q : Str} (e : Ex F H) (t : TabD F H a q) : TabS H a q := by
  obtain ⟨ps, h1, h2, h3⟩ := t
  refine ⟨ps, h1, h2, fun pos cv hc => ?_⟩
  obtain ⟨c, e1, e2⟩ := h3 pos cv hc
  exact ⟨c, e1, e _ _ e2⟩
/-- the tables have grown -/
theorem Sto.tabs {TT : List (Addr × Str)} (s : Sto K F M H) (hM : ∀ a q, M a = some (.tab q) → (a, q) ∈ TT) (e : ExtN H H1) (t : Tabs TT H1) : ∃ F1, Ex F F1 ∧ Sto K F1 M H1 := by
  classical
  let F1 : Hp := fun b => if (M b).isSome then none else match F b with
    | some o => some o
    | none => match H1 b with
      | some (.ext p) => some (.ext p)
      | _ => none
  have old : ∀ b o, F b = some o → H1 b = some o := fun b o h => e b o (s.ex b o h) fun ps z => s.nt b ps (by rw [h, z])
  have notM : ∀ b o, F b = some o → (M b).isSome = false := fun b o h => by
    cases hm : M b with
    | none => rfl
    | some m =>
      have z := (s.mem b m hm).1
      rw [h] at z
      cases z
  have up : Ex F F1 := fun b o h => by
    show (if (M b).isSome then none else _) = _
    rw [notM b o h, if_neg (by decide), h]
  refine ⟨F1, up, ⟨fun b o h => ?_, fun a m h => ?_, fun b ps h => ?_⟩⟩
  · have h : (if (M b).isSome then none else match F b with | some o => some o | none => match H1 b with | some (.ext p) => some (.ext p) | _ => none) = some o := h
    split at h
    · cases h
    · split at h
      · next o' ho =>
        rw [← h]
        exact old b o' ho
      · split at h
        · next p hp =>
          rw [← h]
          exact hp
        · cases h
  · obtain ⟨h1, h2⟩ := s.mem a m h
    refine ⟨by show (if (M a).isSome then none else _) = none; rw [h]; rfl, ?_⟩
    have sm : ∀ o, H a = some o → (∀ ps, o ≠ .tbl ps) → H1 a = H a := fun o ho no => by rw [e a o ho no, ho]
    cases m with
    | lst ds =>
      obtain ⟨vs, g1, g2⟩ := h2
      exact ⟨vs, by rw [sm _ g1 (by intro _ z; cases z)]; exact g1, g2.mono up⟩
    | ins C ns ds =>
      obtain ⟨dx, vs, g1, g2, g3⟩ := h2
      exact ⟨dx, vs, by rw [sm _ g1 (by intro _ z; cases z)]; exact g1, g2, g3.mono up⟩
    | tab q =>
      obtain ⟨ps, h1, h2, h3⟩ := t (a, q) (hM a q h)
      refine ⟨ps, h1, h2, fun pos cv hc => ?_⟩
      obtain ⟨c, e1, e2⟩ := h3 pos cv hc
      refine ⟨c, e1, ?_⟩
      show (if (M c).isSome then none else match F c with | some o => some o | none => match H1 c with | some (.ext p) => some (.ext p) | _ => none) = some (CodeO c q)
      have hc2 : (M c).isSome = false := by
        cases hm : M c with
        | none => rfl
        | some m =>
          obtain ⟨_, g⟩ := s.mem c m hm
          cases m with
          | lst ds =>
            obtain ⟨vs, g1, _⟩ := g
            have z := e c _ g1 (by intro _ z; cases z)
            rw [e2] at z
            cases z
          | ins C ns ds =>
            obtain ⟨dx, vs, g1, _⟩ := g
            have z := e c _ g1 (by intro _ z; cases z)
            rw [e2] at z
            cases z
          | tab q2 =>
            obtain ⟨ps2, z, _⟩ := t (c, q2) (hM c q2 hm)
            have z : H1 c = some (.tbl ps2) := z
            rw [e2] at z
            cases z
      rw [hc2, if_neg (by decide)]
      cases hF : F c with
      | some o =>
        have z := old c o hF
        rw [e2] at z
        exact z.symm
      | none =>
        show (match H1 c with | some (HO.ext p) => some (HO.ext p) | _ => none) = _
        rw [e2]
        rfl
  · have h : (if (M b).isSome then none else match F b with | some o => some o | none => match H1 b with | some (.ext p) => some (.ext p) | _ => none) = some (.tbl ps) := h
    split at h
    · cases h
    · split at h
      · next o' ho =>
        exact s.nt b ps (by rw [ho]; exact h)
      · split at h
        · cases h
        · cases h
end
/-- what _law_fault makes of an exception -/
def FaultX (g : Gb) (R : VK) : XK := fun cls d H => (cls = .ref (ga g "BadText") ∧ ∃ dd fs v, d = some dd ∧ H dd = some (.xd fs) ∧ fs.lookup ("at" : Str) = some v ∧ R v H) ∨
  (cls = .ref (ga g "NoTelling") ∧ ∃ dd fs v1 v2, d = some dd ∧ H dd = some (.xd fs) ∧ fs.lookup ("top" : Str) = some v1 ∧ fs.lookup ("bottom" : Str) = some v2 ∧ ∀ p, H p = none → R (.ref p) (upd H p (.tup [v1, v2])))
def TFault (g : Gb) : (XK → Hp → VK → Prop) → Hp → VK → Prop := fun tl H Q => tl (FaultX g Q) H fun _ H' => Q .non H'
section
variable {g : Gb}
theorem fault_gives (T : Tx g) {X : Cx} (hK : X.K = g.K) (hm : X.mg = g.mg) {gA : Addr} {cdg : Value} {q : Str} : GivesTo X ["_law_ask", "fault"] "_law_fault" (defScope (topS 86)) gA cdg (defBody (topS 86)) "_law_ask" q (TFault g) := by
  intro f c' s H Q tl act hc h
  have T' := T.b
  refine ⟨_, pss_cons (ps_try_hd (X := (cxOf C8.CX0 X.prog X.w X.K X.mg X.base ["_law_ask", "fault"] "_law_fault" (defScope (topS 86)) gA cdg X.A X.stack s H C8.E0).nox)
    (W := fun D cls d σ H => FaultX g D.rt cls d H)
    (tb := fun W D σ H => ∃ Ech : XK, (∀ cls d σ' H', Ech cls d H' → W cls d σ' H') ∧ σ[0]? = some (some (.ref f)) ∧ H c' = some (CodeO c' q) ∧ tl Ech H (fun _ H' => D.nx σ H')) rfl rfl (fun W pn xe tk _ => ?_) fun D cls d σ H2 w => ?_) (pss_one (ps_ret pe_non)), ?_⟩
  · refine ⟨fun pins s' σ H' D I h' => ?_⟩
    obtain ⟨Ech, hW, h1, h2, h3⟩ := h'
    exact (pss_one (ps_expr (act W pn xe Ech _ _ tk hW))).run pins s' σ H' D I ⟨h1, h2, h3⟩
  · intro pins a s2 L
    have hl := L.inv.len
    have hl : σ.length = 2 := hl
    have nB : Names (cxOf C8.CX0 X.prog X.w X.K X.mg X.base ["_law_ask", "fault"] "_law_fault" (defScope (topS 86)) gA cdg X.A X.stack s H C8.E0).nox "BadText" (.ref (ga g "BadText")) := ⟨glo_of (by rfl), by decide, .inl (by show X.mg _ = _; rw [hm]; exact He.glo_ok T'.X T'.G (T'.c.fact 63 (f := .glo "BadText") rfl))⟩
    have nN : Names (cxOf C8.CX0 X.prog X.w X.K X.mg X.base ["_law_ask", "fault"] "_law_fault" (defScope (topS 86)) gA cdg X.A X.stack s H C8.E0).nox "NoTelling" (.ref (ga g "NoTelling")) := ⟨glo_of (by rfl), by decide, .inl (by show X.mg _ = _; rw [hm]; exact He.glo_ok T'.X T'.G (T'.c.fact 66 (f := .glo "NoTelling") rfl))⟩
    have at1 : (σ.set 1 (some (V.ref a)))[1]? = some (some (V.ref a)) := List.getElem?_set_self (by omega)
    rcases w with ⟨rfl, dd, fs, v, rfl, hx, hv, q⟩ | ⟨rfl, dd, fs, v1, v2, rfl, hx, h1, h2, q⟩
    · refine hd_as (i := 1) (b := true) rfl (by show ((["_law_ask", "fault"] : List Str)).Nodup; decide +kernel) rfl rfl nB (by show PySem.W.exmOne X.K _ _ = _; rw [hK]; exact T.eBB) (fun _ a' oe pn hz hf na => ⟨_, pss_one (ps_ret (pe_xf (by show XfC X.K _; rw [hK]; exact T.xfB) (by show PySem.W.findIn X.K _ _ = _; rw [hK]; exact T.noAt) hz hf (pe_var (i := 1) rfl (vis_of rfl)))), ?_⟩) (fun z => by cases z) pins a s2 L
      exact ⟨_, List.getElem?_set_self (by omega), rfl, rfl, dd, fs, v, rfl, hx, hv, q⟩
    · refine hd_as (i := 1) (b := false) rfl (by show ((["_law_ask", "fault"] : List Str)).Nodup; decide +kernel) rfl rfl nB (by show PySem.W.exmOne X.K _ _ = _; rw [hK]; exact T.eNB) (fun z => by cases z) (fun _ => ?_) pins a s2 L
      refine hd_as (i := 1) (b := true) rfl (by show ((["_law_ask", "fault"] : List Str)).Nodup; decide +kernel) rfl rfl nN (by show PySem.W.exmOne X.K _ _ = _; rw [hK]; exact T.eNN) (fun _ a' oe pn hz hf na => ⟨_, pss_one (ps_ret (pe_tup (pa_cons (pe_xf (by show XfC X.K _; rw [hK]; exact T.xfN) (by show PySem.W.findIn X.K _ _ = _; rw [hK]; exact T.noTop) hz hf (pe_var (i := 1) rfl (vis_of rfl)))
        (pa_cons (pe_xf (by show XfC X.K _; rw [hK]; exact T.xfN) (by show PySem.W.findIn X.K _ _ = _; rw [hK]; exact T.noBot) hz hf (pe_var (i := 1) rfl (vis_of rfl))) pa_nil)))), ?_⟩) (fun z => by cases z)
      exact ⟨_, List.getElem?_set_self (by omega), rfl, rfl, dd, fs, v1, rfl, hx, h1, _, List.getElem?_set_self (by omega), rfl, rfl, dd, fs, v2, rfl, hx, h2, by show 2 ≤ sizeLine; decide, q⟩
  · exact ⟨FaultX g Q, fun cls d σ' H' w => w, rfl, hc, h⟩
end
/-- the lambda's own context -/
def lamC (c : Cz) (scope : Scope) (k : Nat) (El : Xd) : Cz := { N := c.N, sc := scope, k := k, E := El, fnb := fun _ => false, top := false, qual := c.qual, cd := c.cd }
structure GoodL (g : Gb) (c : Cz) (scope : Scope) (k : Nat) (E : XK) (X' : Cx) : Prop where
  prog : X'.prog = g.P
  w : X'.w = g.w
  K : X'.K = g.K
  mg : X'.mg = g.mg
  base : X'.base = g.base
  N : X'.N = c.N
  sc : X'.env.scope = scope
  calm : X'.calm = true
  room : Room k X'.A
  takes : Takes X' (fun cls d _ H => E cls d H)
  pas : PassesOwn (model X'.prog X'.w) X'.A X'.env X'.xe
/-- the exceptions of a lambda that _law_fault tells -/
def FaultE (g : Gb) (Q : D → Mem → Prop) : Xd := fun C ns ds _ M' => (C = ga g "BadText" ∧ ns = ([("at" : Str)] : List Str) ∧ ∃ d, ds = [d] ∧ Q d M') ∨ (C = ga g "NoTelling" ∧ ns = ([("top" : Str), ("bottom" : Str)] : List Str) ∧ ∃ d d', ds = [d, d'] ∧ Q (.tup [d, d']) M')
/-- _law_fault(lambda: body) -/
theorem ex_lamfault {g : Gb} {c : Cz} {δ : Sl} {M : Mem} {Q : D → Mem → Prop} {k : Nat} {cO P : Addr} {params : Arguments} {body : Expr} {scope : Scope} {p lpos pos : Pos} {TT : List (Addr × Str)} (T : Tx g) (hk : k + 2 ≤ c.k) (htop : c.top = true) (hcd : c.cd = .ref cO) (TB : TabB g.base g.mg cO P)
    (hP : (P, c.qual ++ "<lambda>") ∈ TT) (hu : ∀ p ∈ TT, p.1 = P → p.2 = c.qual ++ "<lambda>") (hM : ∀ a q, M a = some (.tab q) → (a, q) ∈ TT) (hM2 : ∀ z ∈ TT, M z.1 = some (.tab z.2)) (hg : gloB c.sc "_law_fault" = true) (hs : lamSB c.sc scope = true)
    (hb : EX g (lamC c scope k (FaultE g Q)) body δ M fun _ M' => Q .non M')
    (hdef : ∀ env, defaultsOf params env = ([], []) := by intro _; rfl) (hbind : ∀ (q : Str) (cl : List (Str × Addr)) (pm cv ctv : Value), bindArgs (PySem.W.kla_fn "<lambda>" q params body scope cl pm cv ctv) ⟨[], []⟩ = pure [] := by intro _ _ _ _ _; rfl) :
    EX g c (.Call (.Name "_law_fault" p) [.Lambda params body scope lpos] [] pos) δ M Q := by
  intro X F0 G F σ H eF st sl
  have T' := T.b
  obtain ⟨fd, Ff⟩ := T'.fun_ 67 (x := "_law_fault") (m := none) (n := "_law_fault") (q := "_law_fault") (st := topS 86) rfl
  have hbn := Ff.binds (ps := ["_law_ask"]) (fun _ _ _ _ _ _ us hl => match us, hl with | [_], _ => rfl)
  have hkp := Ff.kp
  obtain ⟨oc, od, kV, doc, pm, an, cdv, ct, osl, rfl, lk, hcg⟩ := Ff.ex
  obtain ⟨t1, t2, t3, t4, t5⟩ := G.top htop
  have LS : LamS X.env.scope scope := LamX.lamS_by (by rw [G.sc]; exact hs)
  refine wE_of (LamX.pe_lamcall (T := TT) (TT := TFault g) (k := k) (Ng := ["_law_ask", "fault"]) (a := "_law_ask") (c := cO) (P := P) (t := fun E σ H Q => ∀ X', GoodL g c scope k E X' → wE X' body σ H Q) (G.gl hg) (by rw [G.mg]; exact He.glo_ok T'.X T'.G (T'.c.fact 54 (f := .glo "_law_fault") rfl)) (by rw [G.K]; exact hkp) (by rw [G.K]; exact lk) (by rw [G.K]; exact hcg)
    (by rw [G.K]; exact hbn) ⟨rfl, rfl, rfl, by decide +kernel, rfl, by decide +kernel, by decide +kernel⟩ rfl (vis_of (by rfl)) (fault_gives T G.K G.mg) (by rw [G.base, G.mg]; exact TB) (by rw [t5, hcd]) (by rw [t4]; exact hP) (by rw [t4]; exact hu) (G.room.mono hk) LS (hdef _) hbind
    (fun A outer s H E f c' hr => ⟨fun pins s' σ' H' Q' I h => ?_⟩)) ⟨fun z hz => ?_, fun H1 eN T1 => ?_⟩
  · exact h (lamCx X A outer s H E scope f c') ⟨G.prog, G.w, G.K, G.mg, G.base, G.N, rfl, rfl, hr, takes_of rfl rfl rfl rfl, passes_of rfl⟩ pins s' I
  · exact TabD.tabS st.ex ((st.mem z.1 _ (hM2 z hz)).2)
  · obtain ⟨F1, e1, st1⟩ := st.tabs hM eN T1
    intro X' GL
    have G' : Good g (lamC c scope k (FaultE g Q)) X' F1 := ⟨GL.prog, GL.w, GL.K, GL.mg, GL.base, GL.N, G.nd, GL.sc, LS.kind, GL.calm, GL.room, GL.takes.imp fun cls d σ' H' w => ?_, GL.pas, (fun x z => by cases z), (fun z => by cases z), fun z => by cases z⟩
    · refine wE_mono (hb X' F1 G' F1 σ H1 (Evl.Ex.refl F1) st1 (sl.mono e1)) fun v H' q => ?_
      obtain ⟨F2, M2, d, e2, st2, r, q⟩ := q
      exact ⟨F2, M2, .non, e1.trans e2, st2, rfl, q⟩
    · obtain ⟨C, dd, ns, us, ds, F2, δ2, M2, rfl, rfl, e2, st2, sl2, hx, hl, rs, hE⟩ := w
      rcases hE with ⟨rfl, rfl, d0, rfl, q⟩ | ⟨rfl, rfl, d0, d1, rfl, q⟩
      · obtain ⟨v, r, rfl, r1, r2⟩ := rs
        obtain rfl : r = [] := r2
        exact .inl ⟨rfl, dd, _, v, rfl, hx, rfl, F2, M2, d0, e1.trans e2, st2, r1, q⟩
      · obtain ⟨v, r, rfl, r1, v', r', rfl, r2, r3⟩ := rs
        obtain rfl : r' = [] := r3
        exact .inr ⟨rfl, dd, _, v, v', rfl, hx, rfl, rfl, fun p hp => PoE.tup (e1.trans e2) st2 hp (.cons r1 (.cons r2 .nil)) q⟩
end DL

set_option Elab.async false
set_option linter.all false
set_option maxRecDepth 100000
set_option maxHeartbeats 1000000
/-! # The D-layer, part 18: calls by one keyword -/
namespace DL
open PySem PySem.Spec PyProof.Rows L2
open Evl (Ex)
def KwB (K : PySem.W.Frag) (fd : FuncData) (ps : List Str) (kw : Str) : Prop := ∀ (s : Shared) (u w : Value), K.In s.heap → BindsTo s fd ⟨[u], [kw].zip [w]⟩ (ps.zip [u, w])
structure Kmk (g : Gb) (C : Addr) (m : Str) (k : Nat) (ps : List Str) (kw : Str) (sp : DSp) : Prop where
  ex : ∃ (f : Addr) (fd : FuncData), FnOk g.P g.w g.K g.mg g.base (L2.CX g.P g.w) k f fd ps (Lsp g sp) ∧ Meth g.K C m f ∧ KwB g.K fd ps kw
structure Kck (g : Gb) (x : Str) (C : Addr) (k : Nat) (ps : List Str) (kw : Str) (sp : DSp) : Prop where
  ex : ∃ (f : Addr) (fd : FuncData), FnOk g.P g.w g.K g.mg g.base (L2.CX g.P g.w) k f fd ps (Lsp g sp) ∧ Mk g.K C f ∧ g.mg x = some (.ref C) ∧ KwB g.K fd ps kw
section
variable {g : Gb} {c : Cz} {δ : Sl} {M : Mem} {Q : D → Mem → Prop} {pos : Pos} {e : Expr}
/-- the value of the one keyword -/
theorem kw_one {X : Cx} {F0 F H : Hp} {σ : L2.St} {kw : Str} {kp : Pos} {pins : List (Addr × Obj)} {s : Shared} {Q2 : D → Mem → Prop} (h : EX g c e δ M Q2) (G : Good g c X F0) (eF : Ex F0 F) (st : Sto g.K F M H) (sl : SlotsR g.K F δ σ) (I : Inv X pins σ H s) {QQ : List Value → Shared → Prop}
    (q : ∀ u s2 v H2 F2 M2 d, Inv X pins σ H2 s2 → RelV v u → Ex F F2 → Sto g.K F2 M2 H2 → Rep g.K F2 d v → Q2 d M2 → QQ [u] s2) :
    wpAny (model X.prog X.w) X.A (evalAll ((backToKw pos (keywordEach [⟨some kw, e, kp⟩] X.env)).map (·.2))) QQ X.xe s := by
  have pk : PK X [⟨some kw, e, kp⟩] (tCons (wE X e) tNil) := pk_cons pe_wE pk_nil
  refine thn (pk.run pos pins s σ H (fun vs H2 => ∃ v, vs = [v] ∧ PoE g F Q2 v H2) I (wE_mono (h X F0 G F σ H eF st sl) fun v H1 q => ⟨v, rfl, q⟩)) fun us s2 ⟨vs, H2, I2, r, v, e2, F2, M2, d, e3, st2, rd, q2⟩ => ?_
  subst e2
  cases r with
  | cons r1 r2 =>
    cases r2
    exact q _ s2 v H2 F2 M2 d I2 r1 e3 st2 rd q2
/-- o.m(k = e) -/
theorem ex_methK {o : Expr} {m kw : Str} {apos kp : Pos} {C : Addr} {k : Nat} {ps : List Str} {sp : DSp} (hk : Kmk g C m k ps kw sp) (hc : Cls g.K C) (hl : k ≤ c.k)
    (h : EX g c o δ M fun x M1 => ∃ p ns ds, x = .ref p ∧ M1 p = some (.ins C ns ds) ∧ m ∉ ns ∧ EX g c e δ M1 fun d M2 => sp [x, d] M2 Q fun C ns xs M' => c.E C ns xs δ M') {pl : Cx → Sem Bool}
    (ht : ∀ X : Cx, eval (.Call (.Attribute o m apos) [] [⟨some kw, e, kp⟩] pos) X.env = (do
      let ov ← eval o X.env
      standAt apos.atName
      let (f, first) ← holding [ov] (getMethod ov m (pl X))
      callWith pos f first (backTo pos (starEach [] X.env)) (backToKw pos (keywordEach [⟨some kw, e, kp⟩] X.env))) := by intro _; rfl) :
    EX g c (.Call (.Attribute o m apos) [] [⟨some kw, e, kp⟩] pos) δ M Q := by
  intro X F0 G F σ H eF st sl pins s I
  obtain ⟨f, fd, hF, hm, hb⟩ := hk.ex
  refine PySem.W.methodCall_KW (pl := pl X) (thn (h X F0 G F σ H eF st sl pins s I) fun u s1 ⟨v, H1, I1, rv, q⟩ => ?_) (ht X)
  obtain ⟨F1, M1, x, e1, st1, r, p, ns, ds, rfl, hp, hn, q⟩ := q
  obtain rfl : v = .ref p := r
  obtain ⟨_, dx, vs, hp2, hlen, rs⟩ := st1.mem p _ hp
  obtain rfl : u = Value.ref p := rv
  refine getmeth_ok I1 hp2 (by rw [G.K]; exact hc) (by rw [G.K]; exact hm) (zip_look (F := F1) hn) ?_
  refine PySem.W.callWith_KW0 (first := [.ref p]) (h₀ := X.base) I1.ok.mod.kin (by rw [G.K]; exact hm.kp) rfl ?_ rfl
  refine kw_one q G (eF.trans e1) st1 (sl.mono e1) I1 fun w s2 vw H2 F2 M2 d I2 rw2 e2 st2 rd q2 => ⟨I2.kIn, ?_⟩
  have hX := G.fn_ok hF
  have hq := Lsp.at G (eF.trans (e1.trans e2)) (e1.trans e2) st2 (sl.mono (e1.trans e2)) (.cons (show Rep g.K F2 (.ref p) (.ref p) from rfl) (.cons rd .nil)) q2
  refine wpAny_call (codeAny_mono (hX.run X.A X.stack s2 H2 ⟨[.ref p], [kw].zip [w]⟩ [.ref p, w] [.ref p, vw] _ (WE (WofD g.K F0 c.E) σ) (G.room.mono hl) I2.env0 (hb s2 _ _ (by rw [← G.K]; exact I2.kIn)) (.cons rfl (.cons rw2 .nil)) hq) fun r s' hq => ?_)
  cases r with
  | error e => exact passAt G.takes σ pins _ _ e s' I2 hq
  | ok fl =>
    cases fl with
    | ret u => exact I2.after hq
    | next => exact False.elim hq
    | brk => exact False.elim hq
    | cont => exact False.elim hq
/-- C(k = e) -/
theorem ex_makeK {x kw : Str} {C : Addr} {p kp : Pos} {k : Nat} {ps : List Str} {sp : DSp} (hk : Kck g x C k ps kw sp) (hl : k + 1 ≤ c.k) (hg : gloB c.sc x = true)
    (h : EX g c e δ M fun d M1 => ∀ q, M1 q = none → sp [.ref q, d] (mup M1 q (.ins C [] [])) (fun d M2 => d = .non ∧ Q (.ref q) M2) fun C ns xs M' => c.E C ns xs δ M')
    (hdb : (x == ("__debug__" : Str)) = false := by decide) : EX g c (.Call (.Name x p) [] [⟨some kw, e, kp⟩] pos) δ M Q := by
  intro X F0 G F σ H eF st sl pins s I
  obtain ⟨f, fd, hF, hM, hm, hb⟩ := hk.ex
  refine wpAny_Call_Name_kw (ld_glob I (G.gl hg) (by rw [G.mg]; exact hm) ?_ hdb)
  have hMk : Mk X.K C f := by
    rw [G.K]
    exact hM
  refine PySem.W.callWith_KW0 (h₀ := X.base) I.ok.mod.kin hMk.kp rfl ?_ rfl
  refine kw_one h G eF st sl I fun w s1 vw H1 F1 M1 d I1 rw2 e1 st1 rd q => ⟨I1.kIn, ?_⟩
  have n1 := I1.hok.fresh (Nat.le_refl s1.heap.objs.size)
  have n2 := I1.hok.fresh (Nat.le_succ s1.heap.objs.size)
  have nn : s1.heap.objs.size ≠ s1.heap.objs.size + 1 := Nat.ne_of_lt (Nat.lt_succ_self _)
  have st2 := st1.newI (C := C) n2 n1 nn
  have hq := Lsp.at (Q := fun d M2 => d = .non ∧ Q (.ref (s1.heap.objs.size + 1)) M2) G (eF.trans e1) e1 st2 (sl.mono e1) (.cons (show Rep g.K F1 (.ref (s1.heap.objs.size + 1)) (.ref (s1.heap.objs.size + 1)) from rfl) (.cons rd .nil)) (q _ (st1.free n2).2)
  have I2 := Inv.made (C := C) I1
  have hX := G.fn_ok hF
  refine wpAny_call (make_map (f := f) I1.kIn hMk.makes hMk.init (beq_iff_eq.mp hMk.fn) (codeAny_mono (hX.run _ X.stack _ _ ⟨[Value.ref (s1.heap.objs.size + 1)], [kw].zip [w]⟩ [.ref (s1.heap.objs.size + 1), w] [.ref (s1.heap.objs.size + 1), vw] _ (WE (WofD g.K F0 c.E) σ) ((G.room.mono hl).make C [] ([kw].zip [w])) (I2.env0.make C [] ([kw].zip [w])) (hb _ _ _ (by rw [← G.K]; exact I2.kIn)) (.cons rfl (.cons rw2 .nil)) hq) fun r s' hq' => ?_))
  cases r with
  | error e => exact passAt G.takes σ pins _ _ e s' I2 hq'
  | ok fl =>
    cases fl with
    | ret u =>
      obtain ⟨v, H', I3, rv3, F3, M3, d, e3, st3, rd, rfl, q3⟩ := I2.after hq'
      obtain rfl : v = .non := rd
      exact ⟨rv3, ⟨V.ref (s1.heap.objs.size + 1), H', I3, rfl, F3, M3, .ref (s1.heap.objs.size + 1), e3, st3, rfl, q3⟩⟩
    | next => exact False.elim hq'
    | brk => exact False.elim hq'
    | cont => exact False.elim hq'
end
end DL

set_option Elab.async false
set_option linter.all false
set_option maxRecDepth 100000
set_option maxHeartbeats 1000000
/-! # The D-layer, part 19: repr; defs that know that no repr is under way -/
namespace DL
open PySem PySem.Spec PyProof.Rows L2
open Evl (Ex)
section
variable {g : Gb} {c : Cz} {δ : Sl} {M : Mem} {Q : D → Mem → Prop} {pos p : Pos} {a : Expr} {es : List Expr}
def ReprD (gd : Bool) (x : D) (M : Mem) (Q : D → Mem → Prop) : Prop := match x with
  | .str z => (reprText z).length ≤ sizeLine ∧ Q (.str (reprText z)) M
  | .int i => i.natAbs.log2 < 1920 ∧ Q (.str (toString i)) M
  | .tup ds => gd = true ∧ ∃ ps, toPs M ds = some ps ∧ (PyData.tuple ps).showable = true ∧ (PyData.tuple ps).hasDict = false ∧ (PyData.tuple ps).depth ≤ 60 ∧ (PyData.tuple ps).shown.length ≤ sizeLine ∧ Q (.str (PyData.tuple ps).shown) M
  | _ => False
def rRepr (K : PySem.W.Frag) (gd : Bool) : List V → Hp → VK → Prop := fun xs H Q => (∃ z, xs = [.str z] ∧ (reprText z).length ≤ sizeLine ∧ Q (.str (reprText z)) H) ∨ (∃ i : Int, xs = [.int i] ∧ i.natAbs.log2 < 1920 ∧ Q (.str (toString i)) H) ∨
  ∃ (a : Addr) (d : PyData), gd = true ∧ xs = [.ref a] ∧ Dp K H (.ref a) d ∧ d.showable = true ∧ d.hasDict = false ∧ d.depth ≤ 60 ∧ d.shown.length ≤ sizeLine ∧ Q (.str d.shown) H
theorem call_repr {X : Cx} {gd : Bool} (hu : X.A.units + 64 < cLine) (hg : gd = true → X.A.guards = some []) : CallR X (.builtin "repr") (rRepr X.K gd) := by
  intro pins s σ H xs us Q I r h
  rcases h with ⟨z, rfl, hz, q⟩ | ⟨i, rfl, hz, q⟩ | ⟨a, d, hgd, rfl, hD, hs, hd, hz, hsz, q⟩
  · obtain ⟨u, rfl, t, rfl⟩ := vals1 r
    exact PySem.P.repr_of_str ⟨.str _, H, I.tok _, ⟨_, rfl⟩, q⟩ hz
  · obtain ⟨u, rfl, t, rfl⟩ := vals1 r
    exact PySem.P.repr_of_int hz ⟨.str _, H, I.tok _, ⟨_, rfl⟩, q⟩
  · obtain ⟨u, rfl, r1⟩ := vals1 r
    obtain rfl : u = .ref a := r1
    obtain ⟨as, R⟩ := Dp.reads I d (.ref a) (.ref a) hD rfl
    exact repr_of_reads' R hs (by rw [hd]; intro z; cases z) (hg hgd) (by omega) (fun _ _ e => e) (fun h' u tk hk => ⟨.str d.shown, H, I.kept hk, ⟨u, rfl⟩, q⟩) hsz
theorem ex_repr (hg : gloB c.sc "repr" = true) (hm : g.mg "repr" = none) (h : EX g c a δ M fun x M1 => ReprD c.gd x M1 Q) (he : ∀ env, starEach [a] env = (false, eval a env) :: starEach [] env := by intro _; rfl) : EX g c (.Call (.Name "repr" p) [a] [] pos) δ M Q := by
  intro X F0 G F σ H eF st sl
  refine wE_of (pe_callB (call_repr (gd := c.gd) G.room.units G.gd) (G.gl hg) (by rw [G.mg]; exact hm) (by decide +kernel) (pa_cons pe_wE pa_nil (he X.env)) (by decide) (by decide) (he X.env) (by rfl)) (wE_mono (h X F0 G F σ H eF st sl) fun v H1 q => ?_)
  obtain ⟨F1, M1, d, e1, st1, r, q⟩ := q
  unfold ReprD at q
  split at q
  · obtain rfl : v = .str _ := r
    exact .inl ⟨_, rfl, q.1, F1, M1, .str _, e1, st1, rfl, q.2⟩
  · obtain rfl : v = .int _ := r
    exact .inr (.inl ⟨_, rfl, q.1, F1, M1, .str _, e1, st1, rfl, q.2⟩)
  · rename_i ds
    obtain ⟨hgd, ps, hp, h1, h2, h3, h4, q⟩ := q
    have dp : Dp g.K H1 v (.tuple ps) := toP_dp st1 r (by show (toPs M1 ds).map PyData.tuple = _; rw [hp]; rfl)
    obtain ⟨a', vs, rfl, _⟩ := r
    exact .inr (.inr ⟨a', .tuple ps, hgd, rfl, by rw [G.K]; exact dp, h1, h2, h3, h4, F1, M1, .str _, e1, st1, rfl, q⟩)
  · exact q.elim
/-! ### defs that are told that no repr is under way -/
structure FnG (P : Program) (w : World) (K : PySem.W.Frag) (mg : Str → Option Value) (base : Heap) (k : Nat) (f : Addr) (fd : FuncData) (ps : List Str) (sp : Sp) : Prop where
  len : ∀ vs H Q E, sp vs H Q E → vs.length = ps.length
  run : ∀ (A : Around) (outer : List Env) (s : Shared) (H : Hp) (args : Args) (us : List Value) (vs : List V) (Q : VK) (E : XK), Room k A → A.guards = some [] → Env0 P w K mg base A outer s H → BindsTo s fd args (ps.zip us) → Vals vs us → sp vs H Q E →
    codeAny (model P w) A (.call (.ref f) args) (CR (L2.CX P w) outer P w H s Q E) s
structure KnG (g : Gb) (x : Str) (k : Nat) (ps : List Str) (sp : DSp) : Prop where
  ex : ∃ (f : Addr) (fd : FuncData), FnG g.P g.w g.K g.mg g.base k f fd ps (Lsp g sp) ∧ g.mg x = some (.ref f) ∧ PySem.W.keepIn g.K (.ref f) = true ∧ Binds g.K fd ps []
theorem Good.fn_okG {X : Cx} {F0 : Hp} {k : Nat} {f : Addr} {fd : FuncData} {ps : List Str} {sp : Sp} (G : Good g c X F0) (F : FnG g.P g.w g.K g.mg g.base k f fd ps sp) : FnG X.prog X.w X.K X.mg X.base k f fd ps sp := by
  rw [G.prog, G.w, G.K, G.mg, G.base]
  exact F
theorem ex_callG {x : Str} {k : Nat} {ps : List Str} {sp : DSp} (hk : KnG g x k ps sp) (hl : k ≤ c.k) (hgd : c.gd = true) (hg : gloB c.sc x = true) (h : AX g c (a :: es) δ M fun ds M1 => sp ds M1 Q fun C ns xs M' => c.E C ns xs δ M')
    (hdb : (x == ("__debug__" : Str)) = false := by decide) (he : ∀ env, starEach (a :: es) env = (false, eval a env) :: starEach es env := by intro _; rfl) (hpl : ∀ env, (backTo pos (starEach es env)).any (·.1) = false := by intro _; rfl) :
    EX g c (.Call (.Name x p) (a :: es) [] pos) δ M Q := by
  intro X F0 G F σ H eF st sl pins s I
  obtain ⟨f, fd, hF, hm, kp, hb⟩ := hk.ex
  refine wpAny_Call_Name_kw (ld_glob I (G.gl hg) (by rw [G.mg]; exact hm) ?_ hdb)
  refine PySem.W.callWith_K (h₀ := X.base) I.ok.mod.kin (by rw [G.K]; exact kp) (thn (h X F0 G F σ H eF st sl pos pins s I) fun us s1 ⟨vs, H1, I1, rv, q⟩ => ⟨I1.kIn, ?_⟩) (he X.env) (hpl X.env)
  obtain ⟨F1, M1, ds, e1, st1, r, q⟩ := q
  have hq := Lsp.at G (eF.trans e1) e1 st1 (sl.mono e1) r q
  have hX := G.fn_okG hF
  have bb := hb _ us (by rw [← G.K]; exact I1.kIn) (by rw [List.append_nil, ← rv.length]; exact hX.len _ _ _ _ hq)
  rw [List.append_nil] at bb
  refine wpAny_call (codeAny_mono (hX.run X.A X.stack s1 H1 ⟨us, []⟩ us vs _ (WE (WofD g.K F0 c.E) σ) (G.room.mono hl) (G.gd hgd) I1.env0 bb rv hq) fun r s' hq => ?_)
  cases r with
  | error e => exact passAt G.takes σ pins _ _ e s' I1 hq
  | ok fl =>
    cases fl with
    | ret u => exact I1.after hq
    | next => exact False.elim hq
    | brk => exact False.elim hq
    | cont => exact False.elim hq
abbrev bodyG (N : List Str) (sc : Scope) (k : Nat) (Ed : Addr → List Str → List D → Mem → Prop) (qual : Str) (cd : Value) : Cz := { bodyC N sc k Ed qual cd with gd := true }
theorem fn_defG {x qual : Str} {st : Stmt} {pd : He.Defn} {fd : FuncData} {N ps : List Str} {k : Nat} {sp : DSp} (F : Fun g.K x qual st (He.fAd g.K pd) fd) (S : FnScope N ps (defScope st)) (len : ∀ ds M Q E, sp ds M Q E → ds.length = ps.length)
    (hb : ∀ ds M Qd Ed cd, cd = .ref (He.codeOf g.K pd) → sp ds M Qd Ed → SXs g (bodyG N (defScope st) k Ed qual cd) (defBody st) (startD N ds) M (bodyO Qd)) : FnG g.P g.w g.K g.mg g.base (k + 1) (He.fAd g.K pd) fd ps (Lsp g sp) := by
  obtain ⟨oc, od, kV, doc, pm, an, cdv, ct, osl, rfl, lk, hcd⟩ := F.ex
  have hlen : ∀ vs H Q E, Lsp g sp vs H Q E → vs.length = ps.length := fun vs H Q E h => by
    obtain ⟨F1, M1, ds, Qd, Ed, st1, r, h, _⟩ := h
    rw [r.length]
    exact len _ _ _ _ h
  obtain ⟨cO, hcO⟩ := He.codeIn_ref hcd
  have hco : He.codeOf g.K pd = cO := He.codeOf_eq lk hcO
  refine ⟨hlen, fun A outer s H args us vs Q E hr hgd e0 hbn rv h => ?_⟩
  refine LamX.run_ofS (N := N) (ps := ps) lk hcd S hr e0 hbn rv (hlen _ _ _ _ h) fun hr' => ⟨_, pss_wSs, ?_⟩
  obtain ⟨F1, M1, ds, Qd, Ed, st1, r, h, hQ, hE⟩ := h
  have G : Good g (bodyG N (defScope st) k Ed qual cdv) (cxOf (L2.CX g.P g.w) g.P g.w g.K g.mg g.base N qual (defScope st) (He.fAd g.K pd) cdv A outer s H E) F1 := {
    prog := rfl, w := rfl, K := rfl, mg := rfl, base := rfl, N := rfl, nd := S.nd, sc := rfl, knd := S.kind, calm := rfl, room := hr'
    takes := (takes_of rfl rfl rfl rfl).imp fun cls d σ H' ⟨C, dd, ns, us, xs, F', δ, M', e1, e2, e3, s1, sl, hd, hl, rr, M'', hs, hEd⟩ => by
      subst e1 e2
      exact hE C ns xs M'' hEd F' H' dd us e3 (s1.sub hs) hd hl rr
    pas := passes_of rfl
    fn := fun _ _ => rfl
    top := fun _ => ⟨rfl, rfl, rfl, rfl, rfl⟩
    gd := fun _ => by
      show (A.deeper _).guards = some []
      simp [Around.deeper, Around.under, hgd, Code.guards, Code.isGuard, pushGuards] }
  refine wSs_mono (hb ds M1 Qd Ed cdv (by rw [hcO, hco]) h _ F1 G F1 _ H (Evl.Ex.refl F1) st1 (start_rep r)) ⟨fun σ' H' q => ?_, fun v H' q => ?_, fun σ' H' q => ?_, fun σ' H' q => ?_⟩
  · obtain ⟨F2, M2, δ2, e2, s2, _, M3, hs, q⟩ := q
    exact hQ .non M3 q F2 .non H' e2 (s2.sub hs) rfl
  · obtain ⟨F2, M2, d, e2, s2, r2, M3, hs, q⟩ := q
    exact hQ d M3 q F2 v H' e2 (s2.sub hs) r2
  · obtain ⟨_, _, _, _, _, _, q⟩ := q
    exact q
  · obtain ⟨_, _, _, _, _, _, q⟩ := q
    exact q
end
theorem Tb.kG {g : Gb} (T : Tb g) (j i : Nat) {x : Str} {st : Stmt} {ps : List Str} {k : Nat} {sp : DSp} (h : fnL[j]? = some (dd x none x x st)) (hi : faL[i]? = some (.glo x))
    (hb : ∀ (kV doc pm : Value) (an : Option Addr) (cdv ct : Value) (us : List Value), us.length = ps.length → bindArgs (PySem.W.fnOf x x (defArgs st) (defBody st) (defScope st) .none kV doc pm an cdv ct) ⟨us, []⟩ = pure (ps.zip us))
    (ok : ∀ fd, Fun g.K x x st (He.fAd g.K (x, none)) fd → FnG g.P g.w g.K g.mg g.base k (He.fAd g.K (x, none)) fd ps (Lsp g sp)) : KnG g x k ps sp := by
  obtain ⟨fd, F⟩ := T.fun_ j h
  exact ⟨_, fd, ok fd F, He.glo_ok T.X T.G (T.c.fact i hi), F.kp, F.binds hb⟩
end DL

set_option Elab.async false
set_option linter.all false
set_option maxRecDepth 100000
set_option maxHeartbeats 1000000
/-! # The plain law, part 1: what was entered last lies behind -/
namespace DL
open PySem PySem.Spec PyProof.Rows L2
theorem stretch_at : ∀ {ws : List Nat} {f k p h : Nat}, h < ws.length → f + (ws.take h).sum ≤ p → p < f + (ws.take h).sum + ws.getD h 0 → stretch k (laid f ws) p = some (k + h)
  | [], _, _, _, h, hh, _, _ => absurd hh (Nat.not_lt_zero h)
  | w :: ws, f, k, p, 0, _, h1, h2 => by
    have h1 : f ≤ p := h1
    have h2 : p < f + 0 + w := h2
    show (if f ≤ p ∧ p < f + w then some k else _) = _
    rw [if_pos ⟨h1, by omega⟩]
    rfl
  | w :: ws, f, k, p, h + 1, hh, h1, h2 => by
    rw [List.take_succ_cons, List.sum_cons] at h1 h2
    have h2 : p < f + (w + (ws.take h).sum) + ws.getD h 0 := h2
    show (if f ≤ p ∧ p < f + w then some k else stretch (k + 1) (laid (f + w) ws) p) = _
    rw [if_neg (by omega), stretch_at (h := h) (Nat.lt_of_succ_lt_succ hh) (by omega) (by omega)]
    congr 1
    omega
theorem widths_at {ms : List Nat} {h : Nat} (hh : h < ms.length) : (widths ms).getD h 0 = lcmL ms / ms.getD h 0 := by
  unfold widths
  rw [getD_lt (by rw [List.length_map]; exact hh), getD_lt hh, List.getElem_map]
theorem enter_get {ms : List Nat} {ls : List (List Ent)} {h i : Nat} {t : Nat × Nat × Nat} : (enter ms ls h t)[i]? = (ls[i]?).map fun l => if h = i then l ++ [(turned ms (heads ls) h, t)] else l := by
  unfold enter
  rw [List.getElem?_modify]
  rfl
theorem heads_enter {ms : List Nat} {ls : List (List Ent)} {h : Nat} {t : Nat × Nat × Nat} : heads (enter ms ls h t) = (heads ls).set h (turned ms (heads ls) h) := by
  refine List.ext_getElem? fun i => ?_
  have e : ∀ l : List Ent, headOf (l ++ [(turned ms (heads ls) h, t)]) = turned ms (heads ls) h := fun l => by
    unfold headOf
    rw [List.getLast?_append]
    rfl
  have e0 : (heads ls)[i]? = (ls[i]?).map headOf := List.getElem?_map ..
  have e1 : (heads (enter ms ls h t))[i]? = ((enter ms ls h t)[i]?).map headOf := List.getElem?_map ..
  rw [e1, enter_get]
  by_cases hi : h = i
  · subst hi
    rw [List.getElem?_set, if_pos rfl, heads_len]
    by_cases hh : h < ls.length
    · rw [if_pos hh, List.getElem?_eq_getElem hh]
      show some (headOf (if h = h then _ else _)) = _
      rw [if_pos rfl, e]
    · rw [if_neg hh, List.getElem?_eq_none (by omega)]
      rfl
  · rw [List.getElem?_set_ne hi, e0]
    cases ls[i]? with
    | none => rfl
    | some l =>
      show some (headOf (if h = i then _ else _)) = _
      rw [if_neg hi]
      rfl
theorem place_set {ms last : List Nat} {h T : Nat} (hl : last.length = ms.length) (hh : h < ms.length) : placeOf ms (last.set h T) = (placeS ms last h + T * (lcmL ms / ms.getD h 0)) % lcmL ms := by
  unfold placeOf
  rw [← zip_set (f := fun z => z.1 * (lcmL ms / z.2)) (fun m => Nat.zero_mul _) (xs := last.set h T) (by rw [List.length_set]; exact hl) hh, List.set_set]
  rw [← range_zip (f := fun z => z.1 * (lcmL ms / z.2)) (xs := last.set h 0) (by rw [List.length_set]; exact hl)]
  rw [getD_lt (l := last.set h T) (by rw [List.length_set, hl]; exact hh), List.getElem_set_self]
  rfl
theorem enter_arc {ms : List Nat} {ls : List (List Ent)} {h : Nat} {t : Nat × Nat × Nat} (hm : MsOk ms) (ht : TellOk ms) (hl : ls.length = ms.length) (hh : h < ms.length) : stretch 0 (arcs ms) (placeOf ms (heads (enter ms ls h t))) = some h := by
  have hl2 : (heads ls).length = ms.length := by rw [heads_len]; exact hl
  rw [heads_enter, place_set hl2 hh]
  have key := marks_one hm ht hl2 hh
  have hmem : turned ms (heads ls) h ∈ [turned ms (heads ls) h] := List.mem_singleton.mpr rfl
  rw [← key] at hmem
  have hp := (List.mem_filter.mp hmem).2
  rw [Bool.and_eq_true_iff, decide_eq_true_iff, decide_eq_true_iff] at hp
  have hw : h < (widths ms).length := by unfold widths; rw [List.length_map]; exact hh
  unfold arcs
  rw [stretch_at hw (by rw [Nat.zero_add]; exact hp.1) (by rw [Nat.zero_add, widths_at hh]; exact hp.2), Nat.zero_add]
theorem enter_any {ms : List Nat} {ls : List (List Ent)} {h : Nat} {t : Nat × Nat × Nat} (hh : h < ls.length) : (enter ms ls h t).any (fun l => decide (0 < l.length)) = true := by
  refine List.any_eq_true.mpr ⟨ls[h] ++ [(turned ms (heads ls) h, t)], ?_, decide_eq_true (by simp)⟩
  exact List.mem_of_getElem? (enter_at (List.getElem?_eq_getElem hh))
theorem behind_enter {ms : List Nat} {ls : List (List Ent)} {h : Nat} {t : Nat × Nat × Nat} (hm : MsOk ms) (ht : TellOk ms) (hl : ls.length = ms.length) (hh : h < ms.length) : handBehind ms (enter ms ls h t) = some h := by
  unfold handBehind
  rw [if_pos (enter_any (by omega))]
  exact enter_arc hm ht hl hh
theorem behind_none {ms : List Nat} {n : Nat} : handBehind ms (noLogs n) = none := by
  unfold handBehind
  rw [if_neg]
  intro h
  obtain ⟨l, hl, h⟩ := List.any_eq_true.mp h
  rw [List.eq_of_mem_replicate hl] at h
  cases h
theorem enter_drop {ms : List Nat} {ls : List (List Ent)} {h : Nat} {t : Nat × Nat × Nat} : (enter ms ls h t).modify h List.dropLast = ls := by
  refine List.ext_getElem? fun i => ?_
  rw [List.getElem?_modify, enter_get]
  cases ls[i]? with
  | none => rfl
  | some l =>
    show some (if h = i then (if h = i then l ++ [_] else l).dropLast else (if h = i then l ++ [_] else l)) = some l
    by_cases hi : h = i
    · rw [if_pos hi, if_pos hi, List.dropLast_concat]
    · rw [if_neg hi, if_neg hi]
theorem led_snoc {ms : List Nat} {ls : List (List Ent)} {es : List Told} {e : Told} : led ms ls (es ++ [e]) = enter ms (led ms ls es) e.1 e.2 := by
  unfold led
  rw [List.foldl_append]
  rfl
theorem led_len {ms : List Nat} : ∀ {es : List Told} {ls : List (List Ent)}, (led ms ls es).length = ls.length
  | [], _ => rfl
  | e :: es, ls => by
    show (led ms (enter ms ls e.1 e.2) es).length = _
    rw [led_len, enter_len]
theorem told_snoc {ds : List Deed} {d : Deed} {cs : List Nat} : toldL cs (ds ++ [d]) = toldL cs ds ++ [(d.1, d.2.1, (cellsAt cs ds).getD d.2.1 0, d.2.2)] := by
  rw [toldL_app]
  rfl
theorem cells_snoc {ds : List Deed} {d : Deed} {cs : List Nat} : cellsAt cs (ds ++ [d]) = (cellsAt cs ds).set d.2.1 d.2.2 := by
  rw [cellsAt_app]
  rfl
theorem done_snoc {ms first : List Nat} {dn : List Deed} {d : Deed} : ledDone ms first (dn ++ [d]) = enter ms (ledDone ms first dn) d.1 (d.2.1, (cellsAt first dn).getD d.2.1 0, d.2.2) := by
  unfold ledDone
  rw [told_snoc, led_snoc]
theorem gone_cons {ms first : List Nat} {dn lf : List Deed} {d : Deed} : ledGone ms first dn (d :: lf) = enter ms (ledGone ms first (dn ++ [d]) lf) d.1 (d.2.1, (cellsAt first dn).getD d.2.1 0, d.2.2) := by
  unfold ledGone
  rw [cells_snoc]
  show led ms _ (_ :: toldL ((cellsAt first dn).set d.2.1 d.2.2) lf).reverse = _
  rw [List.reverse_cons, led_snoc]
theorem gone_nil {ms first : List Nat} {dn : List Deed} : ledGone ms first dn [] = noLogs ms.length := rfl
/-! ### the way back -/
structure Pre (ls L : List (List Ent)) : Prop where
  len : ls.length = L.length
  pre : ∀ (i : Nat) (l : List Ent), ls[i]? = some l → ∃ r, L[i]? = some (l ++ r)
theorem Pre.refl (ls : List (List Ent)) : Pre ls ls := ⟨rfl, fun i l h => ⟨[], by rw [List.append_nil]; exact h⟩⟩
theorem Pre.enter {ms : List Nat} {ls L : List (List Ent)} {h : Nat} {t : Nat × Nat × Nat} (p : Pre (enter ms ls h t) L) : Pre ls L := by
  refine ⟨by rw [← p.len, enter_len], fun i l hl => ?_⟩
  by_cases hi : h = i
  · subst hi
    obtain ⟨r, hr⟩ := p.pre h _ (enter_at hl)
    exact ⟨_, by rw [hr, List.append_assoc]⟩
  · refine p.pre i l ?_
    rw [enter_get, hl]
    show some (if h = i then _ else l) = _
    rw [if_neg hi]
theorem pre_marks {ls L : List (List Ent)} (p : Pre ls L) : marksAt (marksOf L) (ls.map (·.length)) (List.replicate L.length 0) = heads ls := by
  have hl := p.len
  show ((L.map fun l : List Ent => l.map (·.1)).zip ((ls.map (·.length)).zip (List.replicate L.length 0))).map (fun z => if z.2.1 > 0 then z.1.getD (z.2.1 - 1) 0 else z.2.2) = ls.map headOf
  refine List.ext_getElem (by simp [hl]) fun i h1 h2 => ?_
  rw [List.length_map] at h2
  obtain ⟨r, hr⟩ := p.pre i ls[i] (List.getElem?_eq_getElem h2)
  have hL : L[i] = ls[i] ++ r := (List.getElem?_eq_some_iff.mp hr).2
  rw [List.getElem_map, List.getElem_zip, List.getElem_zip, List.getElem_map, List.getElem_map, List.getElem_map, List.getElem_replicate, hL]
  generalize ls[i] = l
  show (if l.length > 0 then (((l ++ r).map (·.1)).getD (l.length - 1) 0) else 0) = headOf l
  rcases List.eq_nil_or_concat l with rfl | ⟨l', e, rfl⟩
  · rfl
  · rw [List.concat_eq_append]
    unfold headOf
    rw [if_pos (by simp), List.getLast?_append, getD_lt (by simp), List.getElem_map, List.getElem_append_left (by simp), List.getElem_append_right (by simp)]
    simp
end DL

set_option Elab.async false
set_option linter.all false
set_option maxRecDepth 100000
set_option maxHeartbeats 1000000
/-! # The plain law, part 2: led logs tell their deeds -/
namespace DL
open PySem PySem.Spec PyProof.Rows L2
abbrev cnts (ls : List (List Ent)) : List Nat := ls.map (·.length)
theorem cnt_at {ms : List Nat} {ls : List (List Ent)} {h : Nat} {t : Nat × Nat × Nat} (hh : h < ls.length) : (cnts (enter ms ls h t)).getD h 0 = ls[h].length + 1 := by
  have e := enter_at (ms := ms) (t := t) (List.getElem?_eq_getElem hh)
  have hlt : h < (enter ms ls h t).length := by rw [enter_len]; exact hh
  rw [getD_lt (by rw [List.length_map]; exact hlt), List.getElem_map, (List.getElem?_eq_some_iff.mp e).2, List.length_append]
  rfl
theorem cnt_back {ms : List Nat} {ls : List (List Ent)} {h : Nat} {t : Nat × Nat × Nat} (hh : h < ls.length) : (cnts (enter ms ls h t)).set h ((cnts (enter ms ls h t)).getD h 0 - 1) = cnts ls := by
  refine List.ext_getElem (by simp [enter_len]) fun i h1 h2 => ?_
  rw [List.length_map] at h2
  by_cases hi : h = i
  · subst hi
    rw [List.getElem_set_self, cnt_at hh, List.getElem_map]
    rfl
  · rw [List.getElem_set_ne hi, List.getElem_map, List.getElem_map]
    have e := enter_get (ms := ms) (ls := ls) (h := h) (i := i) (t := t)
    rw [List.getElem?_eq_getElem h2] at e
    rw [(List.getElem?_eq_some_iff.mp e).2]
    show (if h = i then _ else ls[i]).length = _
    rw [if_neg hi]
theorem cnt_any {ms : List Nat} {ls : List (List Ent)} {h : Nat} {t : Nat × Nat × Nat} (hh : h < ls.length) : (cnts (enter ms ls h t)).any (· != 0) = true := by
  refine List.any_eq_true.mpr ⟨(cnts (enter ms ls h t)).getD h 0, ?_, by rw [cnt_at hh]; rfl⟩
  exact List.mem_of_getElem? (getD_at (by rw [List.length_map, enter_len]; exact hh))
theorem cnt_none {n : Nat} : (cnts (noLogs n)).any (· != 0) = false := by
  rw [Bool.eq_false_iff]
  intro h
  obtain ⟨c, hc, h⟩ := List.any_eq_true.mp h
  obtain ⟨l, hl, rfl⟩ := List.mem_map.mp hc
  rw [List.eq_of_mem_replicate hl] at h
  cases h
theorem back_led {ms : List Nat} {L : List (List Ent)} (hm : MsOk ms) (ht : TellOk ms) : ∀ rs : List Told, (∀ e ∈ rs, e.1 < ms.length) → Pre (led ms (noLogs ms.length) rs.reverse) L →
    BackOk ms (marksOf L) (List.replicate L.length 0) (cnts (led ms (noLogs ms.length) rs.reverse)) (rs.map (·.1))
  | [], _, _ => cnt_none
  | e :: rs, hv, p => by
    have he := hv e List.mem_cons_self
    rw [List.reverse_cons, led_snoc] at p ⊢
    have hl : (led ms (noLogs ms.length) rs.reverse).length = ms.length := by rw [led_len, List.length_replicate]
    have hh : e.1 < (led ms (noLogs ms.length) rs.reverse).length := by omega
    refine ⟨cnt_any hh, ?_, by rw [List.length_map, enter_len]; exact hh, by rw [cnt_at hh]; exact Nat.succ_ne_zero _, ?_⟩
    · rw [pre_marks p]
      exact enter_arc hm ht hl he
    · rw [cnt_back hh]
      exact back_led hm ht rs (fun x hx => hv x (List.mem_cons_of_mem _ hx)) p.enter
theorem pre_at {ms : List Nat} {ls L : List (List Ent)} {h : Nat} {t : Nat × Nat × Nat} (p : Pre (enter ms ls h t) L) (hh : h < ls.length) : ∃ l, L[h]? = some l ∧ l[(cnts (enter ms ls h t)).getD h 0 - 1]? = some (turned ms (heads ls) h, t) := by
  obtain ⟨r, hr⟩ := p.pre h _ (enter_at (List.getElem?_eq_getElem hh))
  refine ⟨_, hr, ?_⟩
  rw [cnt_at hh, Nat.add_sub_cancel, List.append_assoc, List.getElem?_append_right (Nat.le_refl _), Nat.sub_self]
  rfl
theorem walk_done {ms first : List Nat} {L : List (List Ent)} : ∀ rs : List Deed, (∀ d ∈ rs, DOk ms.length first.length d) → Pre (led ms (noLogs ms.length) (toldL first rs.reverse)) L →
    WalkOk L true (cnts (led ms (noLogs ms.length) (toldL first rs.reverse))) (cellsAt first rs.reverse) (rs.map (·.1)) rs first
  | [], _, _ => ⟨rfl, rfl⟩
  | d :: rs, hv, p => by
    obtain ⟨d1, d2, d3⟩ := hv d List.mem_cons_self
    rw [List.reverse_cons, told_snoc, led_snoc] at p
    rw [List.reverse_cons, told_snoc, led_snoc, cells_snoc]
    have hl : (led ms (noLogs ms.length) (toldL first rs.reverse)).length = ms.length := by rw [led_len, List.length_replicate]
    have hh : d.1 < (led ms (noLogs ms.length) (toldL first rs.reverse)).length := by omega
    obtain ⟨l, hL, hl2⟩ := pre_at p hh
    refine ⟨l, _, rs, hL, by rw [List.length_map, enter_len]; exact hh, by rw [cnt_at hh]; exact Nat.succ_pos _, hl2, by rw [List.length_set, cellsAt_len]; exact d2, ?_, rfl, ?_⟩
    · show ((cellsAt first rs.reverse).set d.2.1 d.2.2).getD d.2.1 0 = d.2.2
      rw [getD_lt (by rw [List.length_set, cellsAt_len]; exact d2), List.getElem_set_self]
    · rw [cnt_back hh]
      have e : ((cellsAt first rs.reverse).set d.2.1 d.2.2).set d.2.1 (toN true (turned ms (heads (led ms (noLogs ms.length) (toldL first rs.reverse))) d.1, d.2.1, (cellsAt first rs.reverse).getD d.2.1 0, d.2.2)) = cellsAt first rs.reverse := set_back
      rw [e]
      exact walk_done rs (fun x hx => hv x (List.mem_cons_of_mem _ hx)) p.enter
theorem walk_gone {ms : List Nat} {L : List (List Ent)} : ∀ (lf : List Deed) (cs : List Nat), (∀ d ∈ lf, DOk ms.length cs.length d) → Pre (led ms (noLogs ms.length) (toldL cs lf).reverse) L →
    ∃ csL, WalkOk L false (cnts (led ms (noLogs ms.length) (toldL cs lf).reverse)) cs (lf.map (·.1)) lf csL
  | [], cs, _, _ => ⟨cs, rfl, rfl⟩
  | d :: lf, cs, hv, p => by
    obtain ⟨d1, d2, d3⟩ := hv d List.mem_cons_self
    have e0 : (toldL cs (d :: lf)).reverse = (toldL (cs.set d.2.1 d.2.2) lf).reverse ++ [(d.1, d.2.1, cs.getD d.2.1 0, d.2.2)] := List.reverse_cons
    rw [e0, led_snoc] at p
    rw [e0, led_snoc]
    have hl : (led ms (noLogs ms.length) (toldL (cs.set d.2.1 d.2.2) lf).reverse).length = ms.length := by rw [led_len, List.length_replicate]
    have hh : d.1 < (led ms (noLogs ms.length) (toldL (cs.set d.2.1 d.2.2) lf).reverse).length := by omega
    obtain ⟨l, hL, hl2⟩ := pre_at p hh
    obtain ⟨csL, ih⟩ := walk_gone lf (cs.set d.2.1 d.2.2) (fun x hx => by rw [List.length_set]; exact hv x (List.mem_cons_of_mem _ hx)) p.enter
    refine ⟨csL, l, _, lf, hL, by rw [List.length_map, enter_len]; exact hh, by rw [cnt_at hh]; exact Nat.succ_pos _, hl2, d2, rfl, rfl, ?_⟩
    rw [cnt_back hh]
    exact ih
/-! ### the entries are within their bounds -/
structure EntsOk (ms : List Nat) (k : Nat) (ls : List (List Ent)) (n : Nat) : Prop where
  len : ls.length = ms.length
  each : ∀ (i : Nat) (l : List Ent) (m : Nat), ls[i]? = some l → ms[i]? = some m → l.length ≤ n ∧ ∀ e ∈ l, EntOk m k e
theorem EntsOk.none {ms : List Nat} {k : Nat} : EntsOk ms k (noLogs ms.length) 0 := ⟨List.length_replicate .., fun i l m hl _ => by
  rw [List.eq_of_mem_replicate (List.mem_of_getElem? hl)]
  exact ⟨Nat.le_refl _, fun e he => by cases he⟩⟩
theorem EntsOk.enter {ms : List Nat} {k n : Nat} {ls : List (List Ent)} {h : Nat} {t : Nat × Nat × Nat} (hm : MsOk ms) (hh : h < ms.length) (ht : t.1 < k ∧ t.2.1 < 1000000000 ∧ t.2.2 < 1000000000) (o : EntsOk ms k ls n) : EntsOk ms k (enter ms ls h t) (n + 1) := by
  refine ⟨by rw [enter_len]; exact o.len, fun i l m hl hmi => ?_⟩
  rw [enter_get] at hl
  obtain ⟨l', h1, h2⟩ := Option.map_eq_some_iff.mp hl
  obtain ⟨a, b⟩ := o.each i l' m h1 hmi
  split at h2
  · next hi =>
    subst hi h2
    refine ⟨by rw [List.length_append]; exact Nat.succ_le_succ a, fun e he => ?_⟩
    rcases List.mem_append.mp he with he | he
    · exact b e he
    · rw [List.mem_singleton.mp he]
      have hlt := turned_lt (last := heads ls) hm hh
      have hmm : ms.getD h 0 = m := by
        rw [List.getD_eq_getElem?_getD, hmi]
        rfl
      rw [hmm] at hlt
      exact ⟨hlt, ht⟩
  · subst h2
    exact ⟨Nat.le_succ_of_le a, b⟩
theorem EntsOk.led {ms : List Nat} {k : Nat} (hm : MsOk ms) : ∀ {es : List Told} {ls : List (List Ent)} {n : Nat}, (∀ e ∈ es, e.1 < ms.length ∧ e.2.1 < k ∧ e.2.2.1 < 1000000000 ∧ e.2.2.2 < 1000000000) → EntsOk ms k ls n → EntsOk ms k (led ms ls es) (n + es.length)
  | [], _, _, _, o => o
  | e :: es, ls, n, hv, o => by
    have h1 := hv e List.mem_cons_self
    have := EntsOk.led hm (fun x hx => hv x (List.mem_cons_of_mem _ hx)) (o.enter hm h1.1 h1.2)
    rw [List.length_cons, show n + (es.length + 1) = n + 1 + es.length by omega]
    exact this
theorem EntsOk.logs {ms : List Nat} {k n : Nat} {ls : List (List Ent)} (o : EntsOk ms k ls n) (hn : n ≤ 900) : LogsOk ms k ls := ⟨o.len, fun z hz => by
  obtain ⟨i, hi⟩ := List.mem_iff_getElem?.mp hz
  obtain ⟨h1, h2⟩ := List.getElem?_zip_eq_some.mp hi
  obtain ⟨a, b⟩ := o.each i z.1 z.2 h1 h2
  exact ⟨by omega, b⟩⟩
theorem told_bound {m k : Nat} : ∀ {ds : List Deed} {cs : List Nat}, (∀ d ∈ ds, DOk m k d) → (∀ n ∈ cs, n < 1000000000) → ∀ e ∈ toldL cs ds, e.1 < m ∧ e.2.1 < k ∧ e.2.2.1 < 1000000000 ∧ e.2.2.2 < 1000000000
  | [], _, _, _, e, he => by cases he
  | d :: ds, cs, hd, hc, e, he => by
    obtain ⟨d1, d2, d3⟩ := hd d List.mem_cons_self
    rcases List.mem_cons.mp he with rfl | he
    · refine ⟨d1, d2, ?_, d3⟩
      show cs.getD d.2.1 0 < _
      by_cases h : d.2.1 < cs.length
      · rw [getD_lt h]
        exact hc _ (List.getElem_mem h)
      · rw [List.getD_eq_getElem?_getD, List.getElem?_eq_none (by omega)]
        exact (by decide : (0 : Nat) < 1000000000)
    · refine told_bound (fun x hx => hd x (List.mem_cons_of_mem _ hx)) (fun n hn => ?_) e he
      rcases List.mem_or_eq_of_mem_set hn with h | h
      · exact hc n h
      · rw [h]
        exact d3
theorem cells_bound {m k : Nat} : ∀ {ds : List Deed} {cs : List Nat}, (∀ d ∈ ds, DOk m k d) → (∀ n ∈ cs, n < 1000000000) → ∀ n ∈ cellsAt cs ds, n < 1000000000
  | [], _, _, hc, n, hn => hc n hn
  | d :: ds, cs, hd, hc, n, hn => by
    refine cells_bound (ds := ds) (cs := cs.set d.2.1 d.2.2) (fun x hx => hd x (List.mem_cons_of_mem _ hx)) (fun n hn => ?_) n hn
    rcases List.mem_or_eq_of_mem_set hn with h | h
    · exact hc n h
    · rw [h]
      exact (hd d List.mem_cons_self).2.2
/-- all that is asked of a desk's sheet -/
theorem told_ok {ms first : List Nat} {dn lf : List Deed} (gm : GoodMs ms) (cf : CellsOk first) (hd : ∀ d ∈ dn ++ lf, DOk ms.length first.length d) (hl : dn.length + lf.length ≤ 100) : ToldOk ms (cellsAt first dn) (ledDone ms first dn) (ledGone ms first dn lf) first dn lf := by
  have hdn : ∀ d ∈ dn, DOk ms.length first.length d := fun d h => hd d (List.mem_append_left _ h)
  have hlf : ∀ d ∈ lf, DOk ms.length first.length d := fun d h => hd d (List.mem_append_right _ h)
  have b1 := told_bound (cs := first) hdn cf.each
  have cb := cells_bound (cs := first) hdn cf.each
  have b2 := told_bound (cs := cellsAt first dn) hlf cb
  have o1 : EntsOk ms first.length (ledDone ms first dn) (0 + (toldL first dn).length) := EntsOk.led gm.mo b1 EntsOk.none
  have o2 : EntsOk ms first.length (ledGone ms first dn lf) (0 + (toldL (cellsAt first dn) lf).reverse.length) := EntsOk.led gm.mo (fun e he => b2 e (List.mem_reverse.mp he)) EntsOk.none
  rw [toldL_len] at o1
  rw [List.length_reverse, toldL_len] at o2
  have lD : (ledDone ms first dn).length = ms.length := o1.len
  have lG : (ledGone ms first dn lf).length = ms.length := o2.len
  refine ⟨⟨gm.mo, ⟨by rw [cellsAt_len]; exact cf.lo, by rw [cellsAt_len]; exact cf.hi, cb⟩, ?_, ?_⟩, gm.te, cf, ⟨dn.reverse.map fun d : Deed => d.1, ?_, ?_, ?_⟩, ?_⟩
  · rw [cellsAt_len]
    exact o1.logs (by omega)
  · rw [cellsAt_len]
    exact o2.logs (by omega)
  · rw [List.length_map, List.length_reverse]
    omega
  · have k := back_led (L := ledDone ms first dn) gm.mo gm.te (toldL first dn).reverse (fun e he => (b1 e (List.mem_reverse.mp he)).1) (by rw [List.reverse_reverse]; exact Pre.refl _)
    rw [List.reverse_reverse] at k
    have e : (toldL first dn).reverse.map (·.1) = dn.reverse.map (·.1) := by
      rw [List.map_reverse, List.map_reverse]
      congr 1
      have gen : ∀ (ds : List Deed) (cs : List Nat), (toldL cs ds).map (·.1) = ds.map (·.1) := fun ds => by
        induction ds with
        | nil => exact fun _ => rfl
        | cons d ds ih => exact fun cs => congrArg (d.1 :: ·) (ih _)
      exact gen dn first
    rw [e] at k
    exact k
  · have k := walk_done (ms := ms) (first := first) (L := ledDone ms first dn) dn.reverse (fun d h => hdn d (List.mem_reverse.mp h)) (by rw [List.reverse_reverse]; exact Pre.refl _)
    rw [List.reverse_reverse] at k
    exact k
  · obtain ⟨csL, k2⟩ := walk_gone (ms := ms) (L := ledGone ms first dn lf) lf (cellsAt first dn) (fun d h => by rw [cellsAt_len]; exact hlf d h) (Pre.refl _)
    refine ⟨lf.map fun d : Deed => d.1, csL, by rw [List.length_map]; omega, ?_, k2⟩
    have k := back_led (L := ledGone ms first dn lf) gm.mo gm.te (toldL (cellsAt first dn) lf) (fun e he => (b2 e he).1) (Pre.refl _)
    have gen : ∀ (ds : List Deed) (cs : List Nat), (toldL cs ds).map (·.1) = ds.map (·.1) := fun ds => by
      induction ds with
      | nil => exact fun _ => rfl
      | cons d ds ih => exact fun cs => congrArg (d.1 :: ·) (ih _)
    rw [gen] at k
    exact k
end DL

set_option Elab.async false
set_option linter.all false
set_option maxRecDepth 100000
set_option maxHeartbeats 1000000
/-! # The plain law, part 3: texts -/
namespace DL
open PySem PySem.Spec PyProof.Rows L2
open TL (joinL numL)
theorem told_strN {n : Nat} (h : n < 1000000000) : toldN (strN n) = some n := by
  have e := tl_strN n
  have l1 : (strN n).length = (numL n).length := by rw [TL.len_tl, e]
  have l2 : (numL n).length ≤ 9 := TL.numL_len (by decide) h
  have l3 : 1 ≤ (numL n).length := by
    cases hn : numL n with
    | nil => exact absurd hn (TL.numL_ne n)
    | cons a l => simp
  have l4 : (numL n).all digB = true := List.all_eq_true.mpr fun c hc => by
    obtain ⟨a, b⟩ := TL.numL_digits n c hc
    unfold digB
    rw [decide_eq_true a, decide_eq_true b]
    rfl
  unfold toldN
  rw [e, TL.numL_val, if_pos ⟨by omega, by omega, l4, rfl⟩]
theorem strN_inj {m n : Nat} (h : strN m = strN n) : m = n := TL.numL_inj (by rw [← tl_strN, ← tl_strN, h])
theorem readN_strN {n : Nat} : ∀ {k i : Nat}, i ≤ n → n < i + k → readN (strN n) i k = some n
  | 0, i, h1, h2 => absurd h2 (by omega)
  | k + 1, i, h1, h2 => by
    show (if strN n = strN i then some i else readN (strN n) (i + 1) k) = _
    by_cases hi : n = i
    · subst hi
      rw [if_pos rfl]
    · rw [if_neg fun h => hi (strN_inj h), readN_strN (by omega) (by omega)]
theorem strN_free {n s : Nat} (h : s < 48 ∨ 57 < s) : s ∉ TL.tl (strN n) := by
  rw [tl_strN]
  exact TL.numL_free h
theorem split_words {x : Str} {ws : List Str} (h : TL.tl x = joinL [32] (ws.map TL.tl)) (hne : ws ≠ []) (hf : ∀ w ∈ ws, 32 ∉ TL.tl w) : Txt.split x " " = ws := by
  refine TL.map_tl_inj ?_
  rw [TL.split_spl x " " (by decide +kernel) (TL.kind_ok (by decide +kernel)), h, show TL.tl (" " : Str) = [32] from by decide +kernel]
  refine TL.spl_join (fun e => hne (List.map_eq_nil_iff.mp e)) fun p hp => ?_
  obtain ⟨w, hw, rfl⟩ := List.mem_map.mp hp
  exact hf w hw
theorem split_lines {x : Str} {ws : List Str} (h : TL.tl x = joinL [10] (ws.map TL.tl)) (hne : ws ≠ []) (hf : ∀ w ∈ ws, 10 ∉ TL.tl w) : Txt.split x "\n" = ws := by
  refine TL.map_tl_inj ?_
  rw [TL.split_spl x "\n" (by decide +kernel) (TL.kind_ok (by decide +kernel)), h, show TL.tl ("\n" : Str) = [10] from by decide +kernel]
  refine TL.spl_join (fun e => hne (List.map_eq_nil_iff.mp e)) fun p hp => ?_
  obtain ⟨w, hw, rfl⟩ := List.mem_map.mp hp
  exact hf w hw
theorem tl_row (l : List Nat) : TL.tl (rowT l) = joinL [32] (l.map numL) := by
  unfold rowT
  rw [TL.join_eq, TL.tl_join, List.map_map]
  have e : (TL.tl ∘ strN) = numL := funext fun n => tl_strN n
  rw [e]
  rfl
theorem joinL_cons {S p : List Nat} {ps : List (List Nat)} (h : ps ≠ []) : joinL S (p :: ps) = p ++ (S ++ joinL S ps) := by
  cases ps with
  | nil => exact absurd rfl h
  | cons q r => rfl
theorem map_numL (l : List Nat) : (l.map strN).map TL.tl = l.map numL := by
  rw [List.map_map]
  exact List.map_congr_left fun n _ => tl_strN n
/-- a word and a row of numbers -/
theorem split_cmd {w w' : Str} {l : List Nat} (hw : TL.tl w' = TL.tl w ++ [32]) (hf : 32 ∉ TL.tl w) (hl : l ≠ []) : Txt.split (w' ++ rowT l) " " = w :: l.map strN := by
  refine split_words ?_ (by simp) fun x hx => ?_
  · rw [TL.tl_append, hw, tl_row, List.map_cons, map_numL, joinL_cons (by simpa using hl), List.append_assoc]
  · rcases List.mem_cons.mp hx with rfl | hx
    · exact hf
    · obtain ⟨n, _, rfl⟩ := List.mem_map.mp hx
      exact strN_free (.inl (by decide))
theorem split_one {w w' : Str} {n : Nat} (hw : TL.tl w' = TL.tl w ++ [32]) (hf : 32 ∉ TL.tl w) : Txt.split (w' ++ strN n) " " = [w, strN n] := by
  refine split_words ?_ (by simp) fun x hx => ?_
  · rw [TL.tl_append, hw, List.append_assoc]
    rfl
  · rcases List.mem_cons.mp hx with rfl | hx
    · exact hf
    · rw [List.mem_singleton.mp hx]
      exact strN_free (.inl (by decide))
theorem nums_some {l : List Nat} (h : ∀ n ∈ l, n < 1000000000) : (l.map strN).map toldN = l.map some := by
  rw [List.map_map]
  exact List.map_congr_left fun n hn => told_strN (h n hn)
theorem noneIn_some (l : List Nat) : noneIn (l.map some) = false := by
  unfold noneIn
  induction l with
  | nil => rfl
  | cons a l ih => exact ih
theorem vals_some (l : List Nat) : valsOf (l.map some) = l := by
  unfold valsOf
  rw [List.map_map]
  exact List.map_id l
theorem tl_cut {z : Str} {n : Nat} (h : n ≤ z.length) : TL.tl (cutS z (some (n : Int)) none) = (TL.tl z).drop n := by
  have e : HT.sIx z.length 0 (some (n : Int)) = n := by
    rw [sIx_some, if_neg (by omega), Int.toNat_natCast]
    omega
  have e2 : HT.sIx z.length z.length none = z.length := rfl
  show (List.take _ (List.drop _ z.cps.toList)) = _
  rw [e, e2]
  refine List.take_of_length_le ?_
  rw [List.length_drop, ← TL.len_tl]
  exact Nat.le_refl _
theorem tl_cut2 {z : Str} {n : Nat} (h : n ≤ z.length) : TL.tl (cutS z none (some (n : Int))) = (TL.tl z).take n := by
  have e : HT.sIx z.length z.length (some (n : Int)) = n := by
    rw [sIx_some, if_neg (by omega), Int.toNat_natCast]
    omega
  have e2 : HT.sIx z.length 0 none = 0 := rfl
  show (List.take _ (List.drop _ z.cps.toList)) = _
  rw [e, e2, Nat.sub_zero, List.drop_zero]
end DL

set_option Elab.async false
set_option linter.all false
set_option maxRecDepth 100000
set_option maxHeartbeats 1000000
/-! # The desk of the law -/
namespace DL
open PySem PySem.Spec PyProof.Rows L2
open Evl (Ex)
variable {g : Gb}
abbrev lawO (g : Gb) (ms first : List Nat) (dn lf : List Deed) : MO := storeO g ms (cellsAt first dn) (ledDone ms first dn) (ledGone ms first dn lf)
/-- the desk at p (its store at s) has done dn and undone lf -/
structure LawAt (g : Gb) (M : Mem) (p s : Addr) (ms first : List Nat) (dn lf : List Deed) : Prop where
  hp : M p = some (deskO g s)
  hs : M s = some (lawO g ms first dn lf)
  gm : GoodMs ms
  cf : CellsOk first
  hd : ∀ d ∈ dn ++ lf, DOk ms.length first.length d
  hl : dn.length + lf.length ≤ 100
def TabEq (M M' : Mem) : Prop := ∀ a q, M' a = some (.tab q) ↔ M a = some (.tab q)
theorem TabEq.refl (M : Mem) : TabEq M M := fun _ _ => Iff.rfl
theorem TabEq.trans {M M1 M2 : Mem} (a : TabEq M M1) (b : TabEq M1 M2) : TabEq M M2 := fun x q => (b x q).trans (a x q)
theorem TabEq.up {M : Mem} {a : Addr} {m : MO} (h : ∀ q, M a ≠ some (.tab q)) (h2 : ∀ q, m ≠ .tab q) : TabEq M (mup M a m) := fun x q => by
  by_cases hx : x = a
  · subst hx
    rw [mup_same]
    exact ⟨fun z => absurd (Option.some.inj z) (h2 q), fun z => absurd z (h q)⟩
  · rw [mup_ne hx]
theorem desk_ne {ns1 ns2 : List Str} {C1 C2 : Addr} {ds1 ds2 : List D} {M : Mem} {p s : Addr} (h1 : M p = some (.ins C1 ns1 ds1)) (h2 : M s = some (.ins C2 ns2 ds2)) (h : ns1.length ≠ ns2.length) : p ≠ s := fun z => by
  subst z
  rw [h1] at h2
  injection h2 with h2
  injection h2 with _ h2 _
  rw [h2] at h
  exact h rfl
theorem LawAt.ne {M : Mem} {p s : Addr} {ms first : List Nat} {dn lf : List Deed} (A : LawAt g M p s ms first dn lf) : p ≠ s := desk_ne A.hp A.hs (by decide)
theorem LawAt.told {M : Mem} {p s : Addr} {ms first : List Nat} {dn lf : List Deed} (A : LawAt g M p s ms first dn lf) : ToldOk ms (cellsAt first dn) (ledDone ms first dn) (ledGone ms first dn lf) first dn lf := told_ok A.gm A.cf A.hd A.hl
theorem logs_small {ms : List Nat} {k : Nat} {ls : List (List Ent)} (hm : MsOk ms) (hk : k ≤ 20) (o : LogsOk ms k ls) : ∀ l ∈ ls, ∀ e ∈ l, Small (el e) := fun l hl e he n hn => by
  obtain ⟨y, hy⟩ := zip_fst o.len hl
  have h1 := (o.each _ hy).2 e he
  have h2 := hm.each y (List.of_mem_zip hy).2
  obtain ⟨a, b, c, d⟩ := h1
  have : n = e.1 ∨ n = e.2.1 ∨ n = e.2.2.1 ∨ n = e.2.2.2 := by
    unfold el at hn
    simpa using hn
  have h10 : (10 : Nat) ^ 10 = 10000000000 := by decide
  rw [h10]
  rcases this with rfl | rfl | rfl | rfl <;> omega
theorem LawAt.desk {M : Mem} {p s : Addr} {ms first : List Nat} {dn lf : List Deed} (A : LawAt g M p s ms first dn lf) : DeskOk g M p s ms (cellsAt first dn) (ledDone ms first dn) (ledGone ms first dn lf) := by
  have T := A.told
  have h10 : (10 : Nat) ^ 10 = 10000000000 := by decide
  refine ⟨A.hp, A.hs, ⟨A.gm.mo, T.sh.co.hi, T.sh.dn.len, T.sh.un.len, T.sh.dn.short, T.sh.un.short⟩, fun n hn => ?_, logs_small A.gm.mo T.sh.co.hi T.sh.dn, logs_small A.gm.mo T.sh.co.hi T.sh.un⟩
  have := T.sh.co.each n hn
  omega
theorem deed_small {ms : List Nat} {k : Nat} {d : Deed} (hm : MsOk ms) (hk : k ≤ 20) (h : DOk ms.length k d) : Small (dl d) := fun n hn => by
  obtain ⟨a, b, c⟩ := h
  have := hm.hi
  have h3 : n = d.1 ∨ n = d.2.1 ∨ n = d.2.2 := by
    unfold dl at hn
    simpa using hn
  have h10 : (10 : Nat) ^ 10 = 10000000000 := by decide
  rw [h10]
  rcases h3 with rfl | rfl | rfl <;> omega
section
variable {M : Mem} {p s : Addr} {ms first : List Nat} {dn lf : List Deed} {Q : D → Mem → Prop} {E : Addr → List Str → List D → Mem → Prop}
/-- a put -/
theorem LawAt.put (A : LawAt g M p s ms first dn lf) {d : Deed} (hd : DOk ms.length first.length d) (q : Q (.str (strN (turned ms (heads (ledDone ms first dn)) d.1))) (mup M s (lawO g ms first (dn ++ [d]) []))) :
    SaySp g p s ms (cellsAt first dn) (ledDone ms first dn) (ledGone ms first dn lf) ["put", strN d.1, strN d.2.1, strN d.2.2] M Q E := by
  obtain ⟨d1, d2, d3⟩ := hd
  have h8 := A.gm.mo.hi
  have hc := A.cf.hi
  refine .inr ⟨fun h => absurd h.1 (show ¬ (4 = 1) by decide), .inr ?_⟩
  have e : ((["put", strN d.1, strN d.2.1, strN d.2.2] : List Str).drop 1).map toldN = [d.1, d.2.1, d.2.2].map some := nums_some (l := [d.1, d.2.1, d.2.2]) fun n hn => by
    have : n = d.1 ∨ n = d.2.1 ∨ n = d.2.2 := by simpa using hn
    rcases this with rfl | rfl | rfl <;> omega
  rw [e]
  refine ⟨noneIn_some _, .inl ⟨rfl, d.1, d.2.1, d.2.2, vals_some _, d3, fun h c => .inr ⟨⟨_, rfl⟩, ?_⟩, fun _ c => absurd (by rw [cellsAt_len]; exact d2) c, fun h => absurd d1 h⟩⟩
  have e2 : lawO g ms first (dn ++ [d]) [] = storeO g ms ((cellsAt first dn).set d.2.1 d.2.2) (enter ms (ledDone ms first dn) d.1 (d.2.1, (cellsAt first dn).getD d.2.1 0, d.2.2)) (noLogs ms.length) := by
    unfold lawO
    rw [cells_snoc, done_snoc, gone_nil]
  rw [← e2]
  exact q
theorem LawAt.put_at (A : LawAt g M p s ms first dn lf) {d : Deed} (hd : DOk ms.length first.length d) (hl : dn.length < 100) : LawAt g (mup M s (lawO g ms first (dn ++ [d]) [])) p s ms first (dn ++ [d]) [] :=
  ⟨by rw [mup_ne A.ne]; exact A.hp, mup_same, A.gm, A.cf, fun x hx => by
    rw [List.append_nil] at hx
    rcases List.mem_append.mp hx with h | h
    · exact A.hd x (List.mem_append_left _ h)
    · rw [List.mem_singleton.mp h]
      exact hd, by rw [List.length_append]; exact hl⟩
/-- undo -/
theorem LawAt.undo0 (A : LawAt g M p s ms first [] lf) (q : Q (.str "-") M) : SaySp g p s ms (cellsAt first []) (ledDone ms first []) (ledGone ms first [] lf) ["undo"] M Q E :=
  .inl ⟨rfl, by decide +kernel, .inl ⟨rfl, .inl ⟨behind_none, q⟩⟩⟩
theorem LawAt.undo {d : Deed} (A : LawAt g M p s ms first (dn ++ [d]) lf) (q : Q (.str (strN d.1)) (mup M s (lawO g ms first dn (d :: lf)))) : SaySp g p s ms (cellsAt first (dn ++ [d])) (ledDone ms first (dn ++ [d])) (ledGone ms first (dn ++ [d]) lf) ["undo"] M Q E := by
  obtain ⟨d1, d2, d3⟩ := A.hd d (by simp)
  have hlen : (ledDone ms first dn).length = ms.length := by unfold ledDone; rw [led_len, List.length_replicate]
  have hh : d.1 < (ledDone ms first dn).length := by omega
  refine .inl ⟨rfl, by decide +kernel, .inl ⟨rfl, .inr ⟨d.1, (ledDone ms first dn)[d.1], (turned ms (heads (ledDone ms first dn)) d.1, d.2.1, (cellsAt first dn).getD d.2.1 0, d.2.2), ?_, d1, ?_, by rw [cellsAt_len]; exact d2, ?_⟩⟩⟩
  · rw [done_snoc]
    exact behind_enter A.gm.mo A.gm.te hlen d1
  · rw [done_snoc]
    exact enter_at (List.getElem?_eq_getElem hh)
  · have e : storeO g ms ((cellsAt first (dn ++ [d])).set d.2.1 ((cellsAt first dn).getD d.2.1 0)) ((ledDone ms first (dn ++ [d])).modify d.1 List.dropLast) (enter ms (ledGone ms first (dn ++ [d]) lf) d.1 (d.2.1, (cellsAt first dn).getD d.2.1 0, d.2.2)) = lawO g ms first dn (d :: lf) := by
      unfold lawO
      rw [gone_cons, done_snoc, enter_drop, cells_snoc, set_back]
    exact e ▸ q
theorem LawAt.undo_at {d : Deed} (A : LawAt g M p s ms first (dn ++ [d]) lf) : LawAt g (mup M s (lawO g ms first dn (d :: lf))) p s ms first dn (d :: lf) :=
  ⟨by rw [mup_ne A.ne]; exact A.hp, mup_same, A.gm, A.cf, fun x hx => A.hd x (by simpa using hx), by have := A.hl; rw [List.length_append, List.length_singleton] at this; rw [List.length_cons]; omega⟩
/-- redo -/
theorem LawAt.redo0 (A : LawAt g M p s ms first dn []) (q : Q (.str "-") M) : SaySp g p s ms (cellsAt first dn) (ledDone ms first dn) (ledGone ms first dn []) ["redo"] M Q E :=
  .inl ⟨rfl, by decide +kernel, .inr (.inl ⟨rfl, .inl ⟨behind_none, q⟩⟩)⟩
theorem LawAt.redo {d : Deed} (A : LawAt g M p s ms first dn (d :: lf)) (q : Q (.str (strN d.1)) (mup M s (lawO g ms first (dn ++ [d]) lf))) : SaySp g p s ms (cellsAt first dn) (ledDone ms first dn) (ledGone ms first dn (d :: lf)) ["redo"] M Q E := by
  obtain ⟨d1, d2, d3⟩ := A.hd d (by simp)
  have hlen : (ledGone ms first (dn ++ [d]) lf).length = ms.length := by unfold ledGone; rw [led_len, List.length_replicate]
  have hh : d.1 < (ledGone ms first (dn ++ [d]) lf).length := by omega
  refine .inl ⟨rfl, by decide +kernel, .inr (.inl ⟨rfl, .inr ⟨d.1, (ledGone ms first (dn ++ [d]) lf)[d.1], (turned ms (heads (ledGone ms first (dn ++ [d]) lf)) d.1, d.2.1, (cellsAt first dn).getD d.2.1 0, d.2.2), ?_, d1, ?_, by rw [cellsAt_len]; exact d2, ?_⟩⟩)⟩
  · rw [gone_cons]
    exact behind_enter A.gm.mo A.gm.te hlen d1
  · rw [gone_cons]
    exact enter_at (List.getElem?_eq_getElem hh)
  · have e : storeO g ms ((cellsAt first dn).set d.2.1 d.2.2) (enter ms (ledDone ms first dn) d.1 (d.2.1, (cellsAt first dn).getD d.2.1 0, d.2.2)) ((ledGone ms first dn (d :: lf)).modify d.1 List.dropLast) = lawO g ms first (dn ++ [d]) lf := by
      unfold lawO
      rw [gone_cons, done_snoc, enter_drop, cells_snoc]
    exact e ▸ q
theorem LawAt.redo_at {d : Deed} (A : LawAt g M p s ms first dn (d :: lf)) : LawAt g (mup M s (lawO g ms first (dn ++ [d]) lf)) p s ms first (dn ++ [d]) lf :=
  ⟨by rw [mup_ne A.ne]; exact A.hp, mup_same, A.gm, A.cf, fun x hx => A.hd x (by simpa using hx), by have := A.hl; rw [List.length_cons] at this; rw [List.length_append, List.length_singleton]; omega⟩
end
end DL

set_option Elab.async false
set_option linter.all false
set_option maxRecDepth 100000
set_option maxHeartbeats 1000000
/-! # A move of the law -/
namespace DL
open PySem PySem.Spec PyProof.Rows L2
open Evl (Ex)
local macro_rules | `(tactic| walk_at "sw") => `(tactic| (intro env h; obtain ⟨sc, _, _, _, _, _, _, _, _⟩ := env; (have h : sc = _ := h); subst h; rfl))
variable {g : Gb}
theorem box_ne {M : Mem} {b p : Addr} {ds : List D} {C : Addr} {ns : List Str} {fs : List D} (h : M b = some (.lst ds)) (h2 : M p = some (.ins C ns fs)) : p ≠ b := fun z => by
  subst z
  rw [h] at h2
  cases h2
theorem LawAt.box {M : Mem} {b p s : Addr} {G S G' S' : Nat} {ms first : List Nat} {dn lf : List Deed} (hM : M b = some (boxO G S)) (A : LawAt g M p s ms first dn lf) : LawAt g (mup M b (boxO G' S')) p s ms first dn lf :=
  ⟨by rw [mup_ne (box_ne hM A.hp)]; exact A.hp, by rw [mup_ne (box_ne hM A.hs)]; exact A.hs, A.gm, A.cf, A.hd, A.hl⟩
theorem TabEq.box {M : Mem} {b : Addr} {G S G' S' : Nat} (hM : M b = some (boxO G S)) : TabEq M (mup M b (boxO G' S')) := TabEq.up (fun q => by rw [hM]; intro z; cases z) (fun q z => by cases z)
theorem LawAt.store {M : Mem} {p s : Addr} {ms first : List Nat} {dn lf dn' lf' : List Deed} (A : LawAt g M p s ms first dn lf) : TabEq M (mup M s (lawO g ms first dn' lf')) := TabEq.up (fun q => by rw [A.hs]; intro z; cases z) (fun q z => by cases z)
/-- texts that are shown -/
def Plain (z : Str) : Prop := z.length ≤ 100000 ∧ ∀ c ∈ TL.tl z, c < 16 ^ 8
theorem Plain.repr {z : Str} (h : Plain z) : (reprText z).length ≤ sizeLine := by
  have h1 := StrLaws.reprText_len z h.2
  have h2 := h.1
  have h3 := sizeLine_eq
  omega
theorem plain_strN {n : Nat} (h : n < 10 ^ 10) : Plain (strN n) := by
  refine ⟨Nat.le_trans (strN_len (by decide) h) (by decide), fun c hc => ?_⟩
  rw [tl_strN] at hc
  obtain ⟨a, b⟩ := TL.numL_digits n c hc
  exact Nat.lt_of_le_of_lt b (by decide)
theorem plain_handT {o : Option Nat} (h : ∀ k, o = some k → k < 10 ^ 10) : Plain (handT o) := by
  cases o with
  | none => exact ⟨by decide +kernel, by decide +kernel⟩
  | some k => exact plain_strN (h k rfl)
theorem ldeeds_rows (l : List Deed) : ldeedsD l = .lst ((l.map dl).map fun r => .tup (natsD r)) := by
  unfold ldeedsD
  rw [List.map_map]
  rfl
section
variable {c : Cz} {δ : Sl} {M : Mem} {Q : D → Mem → Prop} {R : Bool → Mem → Prop}
theorem v_ne_deeds {l : List Deed} (q : Q (.bl (decide (l ≠ []))) M) : EqD not (ldeedsD l) (.lst []) M Q := by
  rw [ldeeds_rows]
  refine v_ne_nil ?_
  have e : decide (l.map dl ≠ []) = decide (l ≠ []) := dec_nat (by simp)
  rw [e]
  exact q
/-- the repr of the same text twice -/
theorem v_same {z : Str} (q : R true M) : EqD id (.str (reprText z)) (.str (reprText z)) M (BlD R) := by
  refine v_eq_str ?_
  refine v_bl ?_
  show R (id (decide (reprText z = reprText z))) M
  rw [decide_eq_true rfl]
  exact q
end
def sp__law_moved (g : Gb) : DSp := fun ds M Q _ => ∃ b, ∃ G S : Nat, ∃ p s ms first dn lf, ds = [.ref b, .ref p, .lst (natsD ms), .lst (natsD first), ldeedsD dn, ldeedsD lf, natD first.length] ∧ M b = some (boxO G S) ∧ LawAt g M p s ms first dn lf ∧ dn.length + lf.length < 100 ∧
  ∀ M' dn' lf', ∀ G' S' : Nat, TabEq M M' → M' b = some (boxO G' S') → LawAt g M' p s ms first dn' lf' → dn'.length + lf'.length ≤ dn.length + lf.length + 1 → Q (.tup [ldeedsD dn', ldeedsD lf']) M'
theorem ok__law_moved (T : Tx g) : Kn g "_law_moved" 13 ["_law_box_here", "_law_desk", "_law_marks_here", "_law_first", "_law_done", "_law_left", "_law_cells_here"] (sp__law_moved g) := by
  refine T.b.k__law_moved fun f fd F => fn_def (N := ["_law_box_here", "_law_desk", "_law_marks_here", "_law_first", "_law_done", "_law_left", "_law_cells_here", "_law_many", "_law_way", "_law_hand_here", "_law_cell", "_law_number", "_law_said", "_law_due"]) F ⟨rfl, rfl, rfl, by decide +kernel, rfl, by decide +kernel, by decide +kernel⟩ (by rintro _ _ _ _ ⟨_, _, _, _, _, _, _, _, _, rfl, _⟩; rfl) ?_
  rintro _ M Qd Ed cd ⟨b, G, S, p, s, ms, first, dn, lf, rfl, hM, A, hl, q⟩
  have T' := T.b
  have h8 := A.gm.mo.hi
  have hlo := A.gm.mo.lo
  have hc := A.cf.hi
  have hc1 := A.cf.lo
  have hz2 := sizeLine_eq
  refine sxs_cons ?_
  refine sx_set (i := 7) rfl rfl ?_
  refine ex_len rfl T'.f_len ?_
  refine ex_name (i := 2) rfl rfl rfl ?_
  refine v_len_lst ?_
  rw [natsD_len]
  refine sxs_cons ?_
  refine sx_set (i := 8) rfl rfl ?_
  refine ex_call (ok__law_take T') (Nat.le_of_ble_eq_true rfl) rfl ?_
  refine ax2 ?_
  refine ex_name (i := 0) rfl rfl rfl ?_
  refine ex_int ?_
  refine ⟨b, G, S, 4, rfl, hM, by decide, by decide, fun way G1 S1 hway => ?_⟩
  refine sxs_cons ?_
  refine sx_if ?_
  refine tx_lt ?_
  refine ex_name (i := 8) rfl rfl rfl ?_
  refine ex_int ?_
  refine v_lt_nat (n := 2) ?_
  refine v_bl ?_
  refine cnd (fun hb => ?_) fun hb => ?_
  ·
    refine sxs_cons ?_
    refine sx_par3 (i := 9) (j := 10) (l := 11) rfl rfl rfl (by decide) (by decide) (by decide) rfl rfl rfl (by walk_at "sw") ?_
    refine ax3 ?_
    refine ex_call (ok__law_take T') (Nat.le_of_ble_eq_true rfl) rfl ?_
    refine ax2 ?_
    refine ex_name (i := 0) rfl rfl rfl ?_
    refine ex_name (i := 7) rfl rfl rfl ?_
    refine ⟨b, G1, S1, ms.length, rfl, mup_same, by omega, by omega, fun h G2 S2 hh => ?_⟩
    rw [mup_mup]
    refine ex_call (ok__law_take T') (Nat.le_of_ble_eq_true rfl) rfl ?_
    refine ax2 ?_
    refine ex_name (i := 0) rfl rfl rfl ?_
    refine ex_name (i := 6) rfl rfl rfl ?_
    refine ⟨b, G2, S2, first.length, rfl, mup_same, by omega, by omega, fun c G3 S3 hcc => ?_⟩
    rw [mup_mup]
    refine ex_call (ok__law_pick T') (Nat.le_of_ble_eq_true rfl) rfl ?_
    refine ax2 ?_
    refine ex_name (i := 0) rfl rfl rfl ?_
    refine ex_lst ?_
    refine ax4 ?_
    refine ex_int ?_
    refine ex_int ?_
    refine ex_int ?_
    refine ex_call (ok__law_take T') (Nat.le_of_ble_eq_true rfl) rfl ?_
    refine ax2 ?_
    refine ex_name (i := 0) rfl rfl rfl ?_
    refine ex_pow ?_
    refine ex_int ?_
    refine ex_int ?_
    refine v_pow_nat (m := 10) (n := 9) (by decide) (by decide) ?_
    refine ⟨b, G3, S3, 10 ^ 9, rfl, mup_same, by decide, by decide, fun n G4 S4 hn => ?_⟩
    rw [mup_mup]
    refine ⟨by show 4 ≤ sizeLine; decide, ?_⟩
    refine ⟨b, G4, S4, _, natsD [0, 10, 999999999, n], rfl, mup_same, .inl rfl, by show 0 < 4; decide, by show 4 < 1000000; decide, fun dv G5 S5 hdv => ?_⟩
    rw [mup_mup]
    obtain ⟨v, hv, rfl⟩ := List.mem_map.mp hdv
    have hv2 : v < 1000000000 := by
      have h9 : (10 : Nat) ^ 9 = 1000000000 := by decide
      rw [h9] at hn
      have : v = 0 ∨ v = 10 ∨ v = 999999999 ∨ v = n := by simpa using hv
      rcases this with rfl | rfl | rfl | rfl <;> omega
    clear hv hdv hn
    refine ⟨_, _, _, rfl, ?_⟩
    have A1 : LawAt g (mup M b (boxO G5 S5)) p s ms first dn lf := A.box hM
    have hd : DOk ms.length first.length (h, c, v) := ⟨hh, hcc, hv2⟩
    have h10 : (10 : Nat) ^ 10 = 10000000000 := by decide
    have hsm : Small [h, c, v] := deed_small (d := (h, c, v)) A.gm.mo hc hd
    have hrow : (rowT [h, c, v]).length ≤ 100 := by
      rw [← rowT_nums (l := [h, c, v]) (show 0 < 3 by decide)]
      exact numsT_len (show 3 ≤ 4 by decide) hsm
    have hput : ("put " : Str).length = 4 := by decide +kernel
    have hsp : Txt.split ("put " ++ rowT [h, c, v]) " " = (["put", strN h, strN c, strN v] : List Str) := split_cmd (w := "put") (w' := "put ") (l := [h, c, v]) (by decide +kernel) (by decide +kernel) (List.cons_ne_nil _ _)
    refine sxs_cons ?_
    refine sx_set (i := 12) rfl rfl ?_
    refine ex_meth (ok_Desk_say T) T'.cls_Desk (Nat.le_of_ble_eq_true rfl) ?_
    refine ex_name (i := 1) rfl rfl rfl ?_
    refine ⟨_, _, A1.hp, by decide, ?_⟩
    refine ax1 ?_
    refine ex_add ?_
    refine ex_str ?_
    refine ex_call (ok__law_row T') (Nat.le_of_ble_eq_true rfl) rfl ?_
    refine ax1 ?_
    refine ex_tup ?_
    refine ax3 ?_
    refine ex_name (i := 9) rfl rfl rfl ?_
    refine ex_name (i := 10) rfl rfl rfl ?_
    refine ex_name (i := 11) rfl rfl rfl ?_
    refine ⟨by show 3 ≤ sizeLine; decide, ?_⟩
    refine ⟨_, [h, c, v], rfl, .inr rfl, (show 3 ≤ 100 by decide), hsm, ?_⟩
    refine v_add_str (by omega) ?_
    have hzl : (("put " : Str) ++ rowT [h, c, v]).length ≤ 10000 := by
      rw [str_len_app]
      omega
    generalize hz : ("put " : Str) ++ rowT [h, c, v] = z at hzl hsp
    refine ⟨p, s, ms, cellsAt first dn, ledDone ms first dn, ledGone ms first dn lf, .str z, ["put", strN h, strN c, strN v], by rw [← hz], A1.desk, .inr ⟨z, rfl, hzl, hsp.symm⟩, LawAt.put (d := (h, c, v)) A1 hd ?_⟩
    refine sxs_cons ?_
    refine sx_set (i := 4) rfl rfl ?_
    refine ex_add ?_
    refine ex_name (i := 4) rfl rfl rfl ?_
    refine ex_lst ?_
    refine ax1 ?_
    refine ex_tup ?_
    refine ax3 ?_
    refine ex_name (i := 9) rfl rfl rfl ?_
    refine ex_name (i := 10) rfl rfl rfl ?_
    refine ex_name (i := 11) rfl rfl rfl ?_
    refine ⟨by show 3 ≤ sizeLine; decide, ?_⟩
    refine ⟨by show 1 ≤ sizeLine; decide, ?_⟩
    refine v_add_lst (by rw [List.length_map, List.length_singleton]; omega) ?_
    have eD : dn.map deedD ++ [.tup [natD h, natD c, natD v]] = (dn ++ [(h, c, v)]).map deedD := by
      rw [List.map_append]
      rfl
    rw [eD]
    refine sxs_cons ?_
    refine sx_set (i := 13) rfl rfl ?_
    refine ex_strc rfl T'.f_str ?_
    refine ex_ixa ?_
    refine ex_ixa ?_
    refine ex_ixa ?_
    refine ex_ixa ?_
    refine ex_call (ok__law_led T') (Nat.le_of_ble_eq_true rfl) rfl ?_
    refine ax5 ?_
    refine ex_name (i := 2) rfl rfl rfl ?_
    refine ex_call (ok__law_size T') (Nat.le_of_ble_eq_true rfl) rfl ?_
    refine ax1 ?_
    refine ex_name (i := 2) rfl rfl rfl ?_
    refine ⟨ms, rfl, A.gm.mo, ?_⟩
    refine ex_name (i := 3) rfl rfl rfl ?_
    refine ex_name (i := 4) rfl rfl rfl ?_
    refine ex_lst ?_
    refine ax_nil ?_
    refine ⟨by show 0 ≤ sizeLine; decide, ?_⟩
    have A2 := A1.put_at hd (by omega)
    refine ⟨ms, first, dn ++ [(h, c, v)], [], rfl, A.gm, hc, A2.hd, A2.hl, ?_⟩
    have hlen : (ledDone ms first dn).length = ms.length := by unfold ledDone; rw [led_len, List.length_replicate]
    refine ex_int ?_
    refine v_ix_tup (d := logsD (ledDone ms first (dn ++ [(h, c, v)]))) (atI_nat (n := 1) rfl) ?_
    refine ex_name (i := 9) rfl rfl rfl ?_
    rw [done_snoc]
    refine v_ix_tup (logs_at (enter_at (List.getElem?_eq_getElem (by omega)))) ?_
    refine ex_neg ?_
    refine ex_int ?_
    refine v_neg_int ?_
    refine v_ix_tup (by rw [List.map_append]; exact atI_last) ?_
    refine ex_int ?_
    refine v_ix_tup (d := natD (turned ms (heads (ledDone ms first dn)) h)) (atI_nat (n := 0) rfl) ?_
    have ht := turned_lt (last := heads (ledDone ms first dn)) A.gm.mo hh
    have hma := A.gm.mo.at hh
    refine ⟨_, rfl, strN_log (by omega), ?_⟩
    refine sxs_one ?_
    refine sx_ret ?_
    refine ex_if ?_
    refine tx_eq ?_
    refine ex_repr rfl T'.f_repr ?_
    refine ex_name (i := 12) rfl rfl rfl ?_
    refine ⟨(plain_strN (n := turned ms (heads (ledDone ms first dn)) h) (by omega)).repr, ?_⟩
    refine ex_repr rfl T'.f_repr ?_
    refine ex_name (i := 13) rfl rfl rfl ?_
    refine ⟨(plain_strN (n := turned ms (heads (ledDone ms first dn)) h) (by omega)).repr, ?_⟩
    refine v_same ?_
    refine ex_tup ?_
    refine ax2 ?_
    refine ex_name (i := 4) rfl rfl rfl ?_
    refine ex_lst ?_
    refine ax_nil ?_
    refine ⟨by show 0 ≤ sizeLine; decide, ?_⟩
    refine ⟨by show 2 ≤ sizeLine; decide, ?_⟩
    refine rt_of (q _ (dn ++ [(h, c, v)]) [] G5 S5 ((TabEq.box hM).trans A1.store) (by rw [mup_ne (box_ne hM A.hs).symm]; exact mup_same) A2 ?_)
    rw [List.length_append, List.length_singleton, List.length_nil]
    omega
  · refine sxs_nil ?_
    have A1 : LawAt g (mup M b (boxO G1 S1)) p s ms first dn lf := A.box hM
    refine sxs_cons ?_
    refine sx_if ?_
    refine tx_eq ?_
    refine ex_name (i := 8) rfl rfl rfl ?_
    refine ex_int ?_
    refine v_eq_nat (n := 2) ?_
    refine v_bl ?_
    refine cnd (fun hb => ?_) fun hb => ?_
    ·
      refine sxs_cons ?_
      refine sx_set (i := 13) rfl rfl ?_
      refine ex_call (ok__law_hand T') (Nat.le_of_ble_eq_true rfl) rfl ?_
      refine ax1 ?_
      refine ex_if ?_
      refine tx_ne ?_
      refine ex_name (i := 4) rfl rfl rfl ?_
      refine ex_lst ?_
      refine ax_nil ?_
      refine ⟨by show 0 ≤ sizeLine; decide, ?_⟩
      refine v_ne_deeds ?_
      refine v_bl ?_
      rcases List.eq_nil_or_concat dn with rfl | ⟨dn', d, hdn⟩
      · refine cnd_pf (by simp) ?_
        refine ex_non ?_
        refine ⟨none, rfl, (fun _ z => by cases z), ?_⟩
        refine sxs_one ?_
        refine sx_ret ?_
        refine ex_if ?_
        refine tx_eq ?_
        refine ex_repr rfl T'.f_repr ?_
        refine ex_meth (ok_Desk_say T) T'.cls_Desk (Nat.le_of_ble_eq_true rfl) ?_
        refine ex_name (i := 1) rfl rfl rfl ?_
        refine ⟨_, _, A1.hp, by decide, ?_⟩
        refine ax1 ?_
        refine ex_str ?_
        refine ⟨p, s, ms, _, _, _, _, ["undo"], rfl, A1.desk, .inr ⟨_, rfl, by decide +kernel, by decide +kernel⟩, A1.undo0 ?_⟩
        refine ⟨Plain.repr (z := "-") ⟨by decide +kernel, by decide +kernel⟩, ?_⟩
        refine ex_repr rfl T'.f_repr ?_
        refine ex_name (i := 13) rfl rfl rfl ?_
        refine ⟨Plain.repr (z := "-") ⟨by decide +kernel, by decide +kernel⟩, ?_⟩
        refine v_same ?_
        refine ex_tup ?_
        refine ax2 ?_
        refine ex_slice ?_
        refine ex_name (i := 4) rfl rfl rfl ?_
        refine v_o_none ?_
        refine v_o_some ?_
        refine ex_neg ?_
        refine ex_int ?_
        refine v_neg_int ?_
        refine ⟨_, rfl, ?_⟩
        refine v_sl_lst ?_
        refine ex_add ?_
        refine ex_slice ?_
        refine ex_name (i := 4) rfl rfl rfl ?_
        refine v_o_some ?_
        refine ex_neg ?_
        refine ex_int ?_
        refine v_neg_int ?_
        refine ⟨_, rfl, ?_⟩
        refine v_o_none ?_
        refine v_sl_lst ?_
        refine ex_name (i := 5) rfl rfl rfl ?_
        refine v_add_lst (by show 0 + _ ≤ _; rw [List.length_map]; omega) ?_
        refine ⟨by show 2 ≤ sizeLine; decide, ?_⟩
        exact rt_of (q _ [] lf _ _ (TabEq.box hM) mup_same A1 (by omega))
      · obtain rfl : dn = dn' ++ [d] := by rw [hdn, List.concat_eq_append]
        obtain ⟨d1, d2, d3⟩ := A.hd d (by simp)
        have h10 : (10 : Nat) ^ 10 = 10000000000 := by decide
        have eL : (dn' ++ [d]).map deedD = dn'.map deedD ++ [deedD d] := List.map_append ..
        refine cnd_pt (by simp) ?_
        refine ex_ixa ?_
        refine ex_ixa ?_
        refine ex_name (i := 4) rfl rfl rfl ?_
        refine ex_neg ?_
        refine ex_int ?_
        refine v_neg_int ?_
        refine v_ix_lst (d := deedD d) (by rw [eL]; exact atI_last) ?_
        refine ex_int ?_
        refine v_ix_tup (d := natD d.1) rfl ?_
        refine ⟨some d.1, rfl, (fun k z => by cases z; omega), ?_⟩
        refine sxs_one ?_
        refine sx_ret ?_
        refine ex_if ?_
        refine tx_eq ?_
        refine ex_repr rfl T'.f_repr ?_
        refine ex_meth (ok_Desk_say T) T'.cls_Desk (Nat.le_of_ble_eq_true rfl) ?_
        refine ex_name (i := 1) rfl rfl rfl ?_
        refine ⟨_, _, A1.hp, by decide, ?_⟩
        refine ax1 ?_
        refine ex_str ?_
        refine ⟨p, s, ms, _, _, _, _, ["undo"], rfl, A1.desk, .inr ⟨_, rfl, by decide +kernel, by decide +kernel⟩, A1.undo ?_⟩
        refine ⟨(plain_strN (by omega)).repr, ?_⟩
        refine ex_repr rfl T'.f_repr ?_
        refine ex_name (i := 13) rfl rfl rfl ?_
        refine ⟨(plain_strN (by omega)).repr, ?_⟩
        refine v_same ?_
        refine ex_tup ?_
        refine ax2 ?_
        refine ex_slice ?_
        refine ex_name (i := 4) rfl rfl rfl ?_
        refine v_o_none ?_
        refine v_o_some ?_
        refine ex_neg ?_
        refine ex_int ?_
        refine v_neg_int ?_
        refine ⟨_, rfl, ?_⟩
        refine v_sl_lst ?_
        refine ex_add ?_
        refine ex_slice ?_
        refine ex_name (i := 4) rfl rfl rfl ?_
        refine v_o_some ?_
        refine ex_neg ?_
        refine ex_int ?_
        refine v_neg_int ?_
        refine ⟨_, rfl, ?_⟩
        refine v_o_none ?_
        refine v_sl_lst ?_
        refine ex_name (i := 5) rfl rfl rfl ?_
        rw [cut_last, cut_end, eL, List.length_append, List.length_singleton, Nat.add_sub_cancel, List.take_left, List.drop_left]
        refine v_add_lst (by rw [List.length_map, List.length_singleton]; rw [List.length_append, List.length_singleton] at hl; omega) ?_
        refine ⟨by show 2 ≤ sizeLine; decide, ?_⟩
        refine rt_of (q _ dn' (d :: lf) G1 S1 ((TabEq.box hM).trans A1.store) (by rw [mup_ne (box_ne hM A.hs).symm]; exact mup_same) A1.undo_at ?_)
        rw [List.length_append, List.length_singleton, List.length_cons]
        omega
    · refine sxs_nil ?_
      refine sxs_cons ?_
      refine sx_set (i := 13) rfl rfl ?_
      refine ex_call (ok__law_hand T') (Nat.le_of_ble_eq_true rfl) rfl ?_
      refine ax1 ?_
      refine ex_if ?_
      refine tx_ne ?_
      refine ex_name (i := 5) rfl rfl rfl ?_
      refine ex_lst ?_
      refine ax_nil ?_
      refine ⟨by show 0 ≤ sizeLine; decide, ?_⟩
      refine v_ne_deeds ?_
      refine v_bl ?_
      cases lf with
      | nil =>
        refine cnd_pf (by simp) ?_
        refine ex_non ?_
        refine ⟨none, rfl, (fun _ z => by cases z), ?_⟩
        refine sxs_one ?_
        refine sx_ret ?_
        refine ex_if ?_
        refine tx_eq ?_
        refine ex_repr rfl T'.f_repr ?_
        refine ex_meth (ok_Desk_say T) T'.cls_Desk (Nat.le_of_ble_eq_true rfl) ?_
        refine ex_name (i := 1) rfl rfl rfl ?_
        refine ⟨_, _, A1.hp, by decide, ?_⟩
        refine ax1 ?_
        refine ex_str ?_
        refine ⟨p, s, ms, _, _, _, _, ["redo"], rfl, A1.desk, .inr ⟨_, rfl, by decide +kernel, by decide +kernel⟩, A1.redo0 ?_⟩
        refine ⟨Plain.repr (z := "-") ⟨by decide +kernel, by decide +kernel⟩, ?_⟩
        refine ex_repr rfl T'.f_repr ?_
        refine ex_name (i := 13) rfl rfl rfl ?_
        refine ⟨Plain.repr (z := "-") ⟨by decide +kernel, by decide +kernel⟩, ?_⟩
        refine v_same ?_
        refine ex_tup ?_
        refine ax2 ?_
        refine ex_add ?_
        refine ex_name (i := 4) rfl rfl rfl ?_
        refine ex_slice ?_
        refine ex_name (i := 5) rfl rfl rfl ?_
        refine v_o_none ?_
        refine v_o_some ?_
        refine ex_int ?_
        refine ⟨_, rfl, ?_⟩
        refine v_sl_lst ?_
        refine v_add_lst (by show _ + 0 ≤ _; rw [List.length_map]; have := A.hl; omega) ?_
        refine ex_slice ?_
        refine ex_name (i := 5) rfl rfl rfl ?_
        refine v_o_some ?_
        refine ex_int ?_
        refine ⟨_, rfl, ?_⟩
        refine v_o_none ?_
        refine v_sl_lst ?_
        refine ⟨by show 2 ≤ sizeLine; decide, ?_⟩
        have e : dn.map deedD ++ cutD (([] : List Deed).map deedD) none (some 1) = dn.map deedD := List.append_nil _
        rw [e]
        exact rt_of (q _ dn [] _ _ (TabEq.box hM) mup_same A1 (by omega))
      | cons d lf =>
        obtain ⟨d1, d2, d3⟩ := A.hd d (by simp)
        have h10 : (10 : Nat) ^ 10 = 10000000000 := by decide
        refine cnd_pt (by simp) ?_
        refine ex_ixa ?_
        refine ex_ixa ?_
        refine ex_name (i := 5) rfl rfl rfl ?_
        refine ex_int ?_
        refine v_ix_lst (d := deedD d) (atI_nat (n := 0) rfl) ?_
        refine ex_int ?_
        refine v_ix_tup (d := natD d.1) rfl ?_
        refine ⟨some d.1, rfl, (fun k z => by cases z; omega), ?_⟩
        refine sxs_one ?_
        refine sx_ret ?_
        refine ex_if ?_
        refine tx_eq ?_
        refine ex_repr rfl T'.f_repr ?_
        refine ex_meth (ok_Desk_say T) T'.cls_Desk (Nat.le_of_ble_eq_true rfl) ?_
        refine ex_name (i := 1) rfl rfl rfl ?_
        refine ⟨_, _, A1.hp, by decide, ?_⟩
        refine ax1 ?_
        refine ex_str ?_
        refine ⟨p, s, ms, _, _, _, _, ["redo"], rfl, A1.desk, .inr ⟨_, rfl, by decide +kernel, by decide +kernel⟩, A1.redo ?_⟩
        refine ⟨(plain_strN (by omega)).repr, ?_⟩
        refine ex_repr rfl T'.f_repr ?_
        refine ex_name (i := 13) rfl rfl rfl ?_
        refine ⟨(plain_strN (by omega)).repr, ?_⟩
        refine v_same ?_
        refine ex_tup ?_
        refine ax2 ?_
        refine ex_add ?_
        refine ex_name (i := 4) rfl rfl rfl ?_
        refine ex_slice ?_
        refine ex_name (i := 5) rfl rfl rfl ?_
        refine v_o_none ?_
        refine v_o_some ?_
        refine ex_int ?_
        refine ⟨_, rfl, ?_⟩
        refine v_sl_lst ?_
        rw [List.map_cons, show (1 : Int) = ((1 : Nat) : Int) from rfl, cut_take (by simp), List.take_succ_cons, List.take_zero]
        rw [List.length_cons] at hl
        refine v_add_lst (by rw [List.length_map, List.length_singleton]; omega) ?_
        refine ex_slice ?_
        refine ex_name (i := 5) rfl rfl rfl ?_
        refine v_o_some ?_
        refine ex_int ?_
        refine ⟨_, rfl, ?_⟩
        refine v_o_none ?_
        refine v_sl_lst ?_
        rw [cut_drop (by simp), List.map_cons, List.drop_succ_cons, List.drop_zero]
        refine ⟨by show 2 ≤ sizeLine; decide, ?_⟩
        have e : dn.map deedD ++ [deedD d] = (dn ++ [d]).map deedD := by
          rw [List.map_append]
          rfl
        rw [e]
        refine rt_of (q _ (dn ++ [d]) lf G1 S1 ((TabEq.box hM).trans A1.store) (by rw [mup_ne (box_ne hM A.hs).symm]; exact mup_same) A1.redo_at ?_)
        rw [List.length_append, List.length_singleton, List.length_cons]
        omega
end DL

set_option Elab.async false
set_option linter.all false
set_option maxRecDepth 100000
set_option maxHeartbeats 1000000
/-! # What the desk of the law says when asked -/
namespace DL
open PySem PySem.Spec PyProof.Rows L2
open Evl (Ex)
variable {g : Gb}
section
variable {M : Mem} {p s : Addr} {ms first : List Nat} {dn lf : List Deed} {Q : D → Mem → Prop} {E : Addr → List Str → List D → Mem → Prop}
def lastHand (dn : List Deed) : Option Nat := dn.getLast?.map (·.1)
def nextHand (lf : List Deed) : Option Nat := lf.head?.map (·.1)
theorem LawAt.behindD (A : LawAt g M p s ms first dn lf) : handBehind ms (ledDone ms first dn) = lastHand dn := by
  rcases List.eq_nil_or_concat dn with rfl | ⟨dn', d, h⟩
  · exact behind_none
  · obtain rfl : dn = dn' ++ [d] := by rw [h, List.concat_eq_append]
    obtain ⟨d1, d2, d3⟩ := A.hd d (by simp)
    rw [done_snoc, behind_enter A.gm.mo A.gm.te (by unfold ledDone; rw [led_len, List.length_replicate]) d1]
    unfold lastHand
    rw [List.getLast?_append]
    rfl
theorem LawAt.behindU (A : LawAt g M p s ms first dn lf) : handBehind ms (ledGone ms first dn lf) = nextHand lf := by
  cases lf with
  | nil => exact behind_none
  | cons d lf =>
    obtain ⟨d1, d2, d3⟩ := A.hd d (by simp)
    rw [gone_cons, behind_enter A.gm.mo A.gm.te (by unfold ledGone; rw [led_len, List.length_replicate]) d1]
    rfl
theorem LawAt.who (A : LawAt g M p s ms first dn lf) (q : Q (.str (handT (lastHand dn) ++ " " ++ handT (nextHand lf))) M) : SaySp g p s ms (cellsAt first dn) (ledDone ms first dn) (ledGone ms first dn lf) ["who"] M Q E := by
  refine .inl ⟨rfl, by decide +kernel, .inr (.inr (.inl ⟨rfl, ?_⟩))⟩
  rw [A.behindD, A.behindU]
  exact q
theorem LawAt.cells (A : LawAt g M p s ms first dn lf) (q : Q (.str (numsT (cellsAt first dn))) M) : SaySp g p s ms (cellsAt first dn) (ledDone ms first dn) (ledGone ms first dn lf) ["cells"] M Q E :=
  .inl ⟨rfl, by decide +kernel, .inr (.inr (.inr (.inl ⟨rfl, q⟩)))⟩
theorem LawAt.smalls (A : LawAt g M p s ms first dn lf) : Small first ∧ (∀ d ∈ dn, Small (dl d)) ∧ (∀ d ∈ lf, Small (dl d)) ∧ dn.length ≤ 1000 ∧ lf.length ≤ 1000 := by
  have h10 : (10 : Nat) ^ 10 = 10000000000 := by decide
  have hl := A.hl
  exact ⟨fun n hn => by have := A.cf.each n hn; omega, fun d hd => deed_small A.gm.mo A.cf.hi (A.hd d (List.mem_append_left _ hd)), fun d hd => deed_small A.gm.mo A.cf.hi (A.hd d (List.mem_append_right _ hd)), by omega, by omega⟩
theorem LawAt.firstS (A : LawAt g M p s ms first dn lf) (q : Q (.str (numsT first)) M) : SaySp g p s ms (cellsAt first dn) (ledDone ms first dn) (ledGone ms first dn lf) ["first"] M Q E := by
  obtain ⟨a, b, c, d, e⟩ := A.smalls
  exact .inl ⟨rfl, by decide +kernel, .inr (.inr (.inr (.inr ⟨first, dn, lf, A.told, a, b, c, d, e, .inr (.inl ⟨rfl, q⟩)⟩)))⟩
theorem LawAt.deeds (A : LawAt g M p s ms first dn lf) (q : Q (.str (rowsT (dn.map dl))) M) : SaySp g p s ms (cellsAt first dn) (ledDone ms first dn) (ledGone ms first dn lf) ["deeds"] M Q E := by
  obtain ⟨a, b, c, d, e⟩ := A.smalls
  exact .inl ⟨rfl, by decide +kernel, .inr (.inr (.inr (.inr ⟨first, dn, lf, A.told, a, b, c, d, e, .inr (.inr (.inl ⟨rfl, q⟩))⟩)))⟩
theorem LawAt.leftS (A : LawAt g M p s ms first dn lf) (q : Q (.str (rowsT (lf.map dl))) M) : SaySp g p s ms (cellsAt first dn) (ledDone ms first dn) (ledGone ms first dn lf) ["left"] M Q E := by
  obtain ⟨a, b, c, d, e⟩ := A.smalls
  exact .inl ⟨rfl, by decide +kernel, .inr (.inr (.inr (.inr ⟨first, dn, lf, A.told, a, b, c, d, e, .inr (.inr (.inr ⟨rfl, q⟩))⟩)))⟩
theorem LawAt.anew (A : LawAt g M p s ms first dn lf) (q : ∀ s2, M s2 = none → Q (.str "ok") (mup (mup M s2 (lawO g ms first dn lf)) p (deskO g s2))) : SaySp g p s ms (cellsAt first dn) (ledDone ms first dn) (ledGone ms first dn lf) ["anew"] M Q E := by
  obtain ⟨a, b, c, d, e⟩ := A.smalls
  exact .inl ⟨rfl, by decide +kernel, .inr (.inr (.inr (.inr ⟨first, dn, lf, A.told, a, b, c, d, e, .inl ⟨rfl, q⟩⟩)))⟩
theorem LawAt.anew_at (A : LawAt g M p s ms first dn lf) {s2 : Addr} (h : M s2 = none) : LawAt g (mup (mup M s2 (lawO g ms first dn lf)) p (deskO g s2)) p s2 ms first dn lf := by
  have n : s2 ≠ p := (ne_none A.hp h).symm
  exact ⟨mup_same, by rw [mup_ne n]; exact mup_same, A.gm, A.cf, A.hd, A.hl⟩
end
end DL

set_option Elab.async false
set_option linter.all false
set_option maxRecDepth 100000
set_option maxHeartbeats 1000000
/-! # The questions of the law and what is due -/
namespace DL
open PySem PySem.Spec PyProof.Rows L2
open Evl (Ex)
variable {g : Gb}
/-- the line z is answered by t -/
def Asks (g : Gb) (ms first : List Nat) (dn lf : List Deed) (z t : Str) : Prop := z.length ≤ 10000 ∧ Plain t ∧ ∀ (M : Mem) (p s b : Addr) (G S : Nat) (Q : D → Mem → Prop) (E : Addr → List Str → List D → Mem → Prop), LawAt g M p s ms first dn lf → M b = some (boxO G S) →
  (∀ M' s', LawAt g M' p s' ms first dn lf → TabEq M M' → M' b = some (boxO G S) → Q (.str t) M') → SaySp g p s ms (cellsAt first dn) (ledDone ms first dn) (ledGone ms first dn lf) (Txt.split z " ") M Q E
section
variable {ms first : List Nat} {dn lf : List Deed}
theorem asks_still {z t w : Str} (hz : z.length ≤ 10000) (ht : Plain t) (hw : Txt.split z " " = [w])
    (h : ∀ (M : Mem) (p s : Addr) (Q : D → Mem → Prop) (E : Addr → List Str → List D → Mem → Prop), LawAt g M p s ms first dn lf → Q (.str t) M → SaySp g p s ms (cellsAt first dn) (ledDone ms first dn) (ledGone ms first dn lf) [w] M Q E) : Asks g ms first dn lf z t :=
  ⟨hz, ht, fun M p s b G S Q E A hM q => by
    rw [hw]
    exact h M p s Q E A (q M s A (TabEq.refl M) hM)⟩
theorem asks_who (ht : Plain (handT (lastHand dn) ++ " " ++ handT (nextHand lf))) : Asks g ms first dn lf "who" (handT (lastHand dn) ++ " " ++ handT (nextHand lf)) :=
  asks_still (w := "who") (by decide +kernel) ht (by decide +kernel) fun M p s Q E A q => A.who q
theorem asks_cells (ht : Plain (numsT (cellsAt first dn))) : Asks g ms first dn lf "cells" (numsT (cellsAt first dn)) :=
  asks_still (w := "cells") (by decide +kernel) ht (by decide +kernel) fun M p s Q E A q => A.cells q
theorem asks_first (ht : Plain (numsT first)) : Asks g ms first dn lf "first" (numsT first) :=
  asks_still (w := "first") (by decide +kernel) ht (by decide +kernel) fun M p s Q E A q => A.firstS q
theorem asks_deeds (ht : Plain (rowsT (dn.map dl))) : Asks g ms first dn lf "deeds" (rowsT (dn.map dl)) :=
  asks_still (w := "deeds") (by decide +kernel) ht (by decide +kernel) fun M p s Q E A q => A.deeds q
theorem asks_left (ht : Plain (rowsT (lf.map dl))) : Asks g ms first dn lf "left" (rowsT (lf.map dl)) :=
  asks_still (w := "left") (by decide +kernel) ht (by decide +kernel) fun M p s Q E A q => A.leftS q
theorem asks_anew : Asks g ms first dn lf "anew" "ok" := by
  refine ⟨by decide +kernel, ⟨by decide +kernel, by decide +kernel⟩, fun M p s b G S Q E A hM q => ?_⟩
  rw [show Txt.split "anew" " " = (["anew"] : List Str) from by decide +kernel]
  refine A.anew fun s2 h => q _ s2 (A.anew_at h) ?_ ?_
  · refine (TabEq.up (fun q => by rw [h]; intro z; cases z) (fun q z => by cases z)).trans (TabEq.up (fun q => ?_) (fun q z => by cases z))
    rw [mup_ne (ne_none A.hp h), A.hp]
    intro z
    cases z
  · rw [mup_ne (box_ne hM A.hp).symm, mup_ne (ne_none hM h)]
    exact hM
theorem asks_told {z t w : Str} {k : Nat} (hz : z.length ≤ 10000) (ht : Plain t) (hk : k < 1000000000) (hw : Txt.split z " " = [w, strN k])
    (h : ∀ (M : Mem) (s : Addr) (Q : D → Mem → Prop) (E : Addr → List Str → List D → Mem → Prop), Q (.str t) M → ToldSp g s ms (cellsAt first dn) (ledDone ms first dn) (ledGone ms first dn lf) w [k] M Q E) : Asks g ms first dn lf z t := by
  refine ⟨hz, ht, fun M p s b G S Q E A hM q => ?_⟩
  rw [hw]
  refine .inr ⟨fun h => absurd h.1 (show ¬ (2 = 1) by decide), .inr ?_⟩
  have e : (([w, strN k] : List Str).drop 1).map toldN = [k].map some := nums_some (l := [k]) fun n hn => by
    rw [List.mem_singleton.mp hn]
    exact hk
  rw [e]
  refine ⟨noneIn_some _, ?_⟩
  rw [vals_some]
  exact h M s _ _ (.inr ⟨⟨_, rfl⟩, q M s A (TabEq.refl M) hM⟩)
theorem asks_done {k : Nat} {t : Str} (ht : Plain t) (hk : k < 1000000000) (h1 : k < ms.length → t = rowsT (((ledDone ms first dn).getD k []).map el)) (h2 : ¬ k < ms.length → t = "refused") : Asks g ms first dn lf ("done " ++ strN k) t := by
  have h10 : (10 : Nat) ^ 10 = 10000000000 := by decide
  have hs := strN_len (n := k) (k := 10) (by decide) (by omega)
  have hd : ("done " : Str).length = 5 := by decide +kernel
  refine asks_told (w := "done") (by rw [str_len_app]; omega) ht hk (split_one (w := "done") (w' := "done ") (by decide +kernel) (by decide +kernel)) fun M s Q E q => .inr (.inl ⟨rfl, k, rfl, fun h => ?_, fun h => ?_⟩)
  · rw [← h1 h]
    exact q
  · rw [← h2 h]
    exact q
theorem asks_undone {k : Nat} {t : Str} (ht : Plain t) (hk : k < 1000000000) (h1 : k < ms.length → t = rowsT (((ledGone ms first dn lf).getD k []).map el)) (h2 : ¬ k < ms.length → t = "refused") : Asks g ms first dn lf ("undone " ++ strN k) t := by
  have h10 : (10 : Nat) ^ 10 = 10000000000 := by decide
  have hs := strN_len (n := k) (k := 10) (by decide) (by omega)
  have hd : ("undone " : Str).length = 7 := by decide +kernel
  refine asks_told (w := "undone") (by rw [str_len_app]; omega) ht hk (split_one (w := "undone") (w' := "undone ") (by decide +kernel) (by decide +kernel)) fun M s Q E q => .inr (.inr (.inl ⟨rfl, k, rfl, fun h => ?_, fun h => ?_⟩))
  · rw [← h1 h]
    exact q
  · rw [← h2 h]
    exact q
end
end DL

set_option Elab.async false
set_option linter.all false
set_option maxRecDepth 100000
set_option maxHeartbeats 1000000
/-! # Texts that are shown -/
namespace DL
open PySem PySem.Spec PyProof.Rows L2
open TL (joinL numL)
theorem mem_joinL {S : List Nat} {c : Nat} : ∀ {ps : List (List Nat)}, c ∈ joinL S ps → c ∈ S ∨ ∃ p ∈ ps, c ∈ p
  | [], h => by cases h
  | [p], h => .inr ⟨p, List.mem_singleton.mpr rfl, h⟩
  | p :: q :: r, h => by
    have h : c ∈ p ++ (S ++ joinL S (q :: r)) := h
    rcases List.mem_append.mp h with h | h
    · exact .inr ⟨p, List.mem_cons_self, h⟩
    · rcases List.mem_append.mp h with h | h
      · exact .inl h
      · rcases mem_joinL h with h | ⟨x, hx, h⟩
        · exact .inl h
        · exact .inr ⟨x, List.mem_cons_of_mem _ hx, h⟩
theorem len_joinL {S : List Nat} {n : Nat} : ∀ {ps : List (List Nat)}, (∀ p ∈ ps, p.length ≤ n) → (joinL S ps).length ≤ ps.length * (n + S.length)
  | [], _ => Nat.zero_le _
  | [p], h => by
    have := h p (List.mem_singleton.mpr rfl)
    show p.length ≤ 1 * _
    omega
  | p :: q :: r, h => by
    have h1 := h p List.mem_cons_self
    have h2 := len_joinL (S := S) (n := n) (ps := q :: r) fun x hx => h x (List.mem_cons_of_mem _ hx)
    show (p ++ (S ++ joinL S (q :: r))).length ≤ (q :: r).length.succ * _
    rw [List.length_append, List.length_append, Nat.succ_mul]
    omega
theorem plain_join {y : Str} {parts : List Str} {n : Nat} (hy : ∀ c ∈ TL.tl y, c < 16 ^ 8) (hp : ∀ x ∈ parts, x.length ≤ n ∧ ∀ c ∈ TL.tl x, c < 16 ^ 8) (hn : parts.length * (n + (TL.tl y).length) ≤ 100000) : Plain (Txt.join y parts) := by
  have e : TL.tl (Txt.join y parts) = joinL (TL.tl y) (parts.map TL.tl) := by rw [TL.join_eq, TL.tl_join]
  refine ⟨?_, fun c hc => ?_⟩
  · rw [TL.len_tl, e]
    refine Nat.le_trans (len_joinL (n := n) fun p h => ?_) (by rw [List.length_map]; exact hn)
    obtain ⟨x, hx, rfl⟩ := List.mem_map.mp h
    rw [← TL.len_tl]
    exact (hp x hx).1
  · rw [e] at hc
    rcases mem_joinL hc with h | ⟨p, h, h2⟩
    · exact hy c h
    · obtain ⟨x, hx, rfl⟩ := List.mem_map.mp h
      exact (hp x hx).2 c h2
theorem plain_nums {l : List Nat} (hl : l.length ≤ 100) (h : Small l) : Plain (numsT l) := by
  unfold numsT
  split
  · refine plain_join (n := 10) (by decide +kernel) (fun x hx => ?_) (by rw [List.length_map, show (TL.tl (" " : Str)).length = 1 from by decide +kernel]; omega)
    obtain ⟨n, hn, rfl⟩ := List.mem_map.mp hx
    exact ⟨strN_len (by decide) (h n hn), (plain_strN (h n hn)).2⟩
  · exact ⟨by decide +kernel, by decide +kernel⟩
theorem plain_rows {rows : List (List Nat)} (hl : rows.length ≤ 900) (h : ∀ l ∈ rows, l.length ≤ 4 ∧ Small l) : Plain (rowsT rows) := by
  unfold rowsT
  split
  · refine plain_join (n := 100) (by decide +kernel) (fun x hx => ?_) (by rw [List.length_map, show (TL.tl (", " : Str)).length = 2 from by decide +kernel]; omega)
    obtain ⟨l, hl2, rfl⟩ := List.mem_map.mp hx
    exact ⟨numsT_len (h l hl2).1 (h l hl2).2, (plain_nums (by have := (h l hl2).1; omega) (h l hl2).2).2⟩
  · exact ⟨by decide +kernel, by decide +kernel⟩
theorem plain_app {a b : Str} (ha : a.length + b.length ≤ 100000) (h1 : ∀ c ∈ TL.tl a, c < 16 ^ 8) (h2 : ∀ c ∈ TL.tl b, c < 16 ^ 8) : Plain (a ++ b) := by
  refine ⟨by rw [str_len_app]; exact ha, fun c hc => ?_⟩
  rw [TL.tl_append] at hc
  rcases List.mem_append.mp hc with h | h
  · exact h1 c h
  · exact h2 c h
end DL

set_option Elab.async false
set_option linter.all false
set_option maxRecDepth 100000
set_option maxHeartbeats 1000000
/-! # asked right -/
namespace DL
open PySem PySem.Spec PyProof.Rows L2
open Evl (Ex)
local macro_rules | `(tactic| walk_at "sw") => `(tactic| (intro env h; obtain ⟨sc, _, _, _, _, _, _, _, _⟩ := env; (have h : sc = _ := h); subst h; rfl))
variable {g : Gb}
theorem kmk_say (T : Tx g) : Kmk g (ga g "Desk") "say" 12 ["self", "line"] "line" (sp_say g) := by
  obtain ⟨fd, F⟩ := T.b.fun_ 54 (x := "Desk") (m := some "say") (n := "say") (q := "Desk.say") (st := inClass (topS 72) 3) rfl
  have ok := fok_Desk_say T F
  obtain ⟨oc, od, kV, doc, pm, an, cdv, ct, osl, rfl, lk, hcd⟩ := F.ex
  exact ⟨_, _, ok, He.meth_ok (T.b.c.fact 131 (f := .meth "Desk" "say") rfl), fun s u w _ => .of_eq rfl⟩
theorem kck_Desk (T : Tx g) : Kck g "Desk" (ga g "Desk") 11 ["self", "text"] "text" (sp_Desk g) := by
  obtain ⟨fd, F⟩ := T.b.fun_ 51 (x := "Desk") (m := some "__init__") (n := "__init__") (q := "Desk.__init__") (st := inClass (topS 72) 0) rfl
  have ok := fok_Desk T.b F
  obtain ⟨oc, od, kV, doc, pm, an, cdv, ct, osl, rfl, lk, hcd⟩ := F.ex
  exact ⟨_, _, ok, He.mkr_ok (T.b.c.fact 127 (f := .mkr "Desk") rfl), He.glo_ok T.b.X T.b.G (T.b.c.fact 71 (f := .glo "Desk") rfl), fun s u w _ => .of_eq rfl⟩
def pairT (x : Str × Str) : D := .tup [.str x.1, .str x.2]
def sp__law_asked_right (g : Gb) : DSp := fun ds M Q _ => ∃ b, ∃ G S : Nat, ∃ p s ms first dn lf, ds = [.ref b, .ref p, .lst (natsD ms), .lst (natsD first), ldeedsD dn, ldeedsD lf] ∧ M b = some (boxO G S) ∧ LawAt g M p s ms first dn lf ∧
  ∀ M' s', ∀ G' S' : Nat, TabEq M M' → M' b = some (boxO G' S') → LawAt g M' p s' ms first dn lf → Q (.bl true) M'
theorem ok__law_asked_right (T : Tx g) : Kn g "_law_asked_right" 13 ["_law_box_here", "_law_desk", "_law_marks_here", "_law_first", "_law_done", "_law_left"] (sp__law_asked_right g) := by
  refine T.b.k__law_asked_right fun f fd F => fn_def (N := ["_law_box_here", "_law_desk", "_law_marks_here", "_law_first", "_law_done", "_law_left", "_law_many", "_law_rows_here", "_law_who", "_law_hand_here", "_law_dues", "_law_line", "_law_due"]) F ⟨rfl, rfl, rfl, by decide +kernel, rfl, by decide +kernel, by decide +kernel⟩ (by rintro _ _ _ _ ⟨_, _, _, _, _, _, _, _, _, rfl, _⟩; rfl) ?_
  rintro _ M Qd Ed cd ⟨b, G, S, p, s, ms, first, dn, lf, rfl, hM, A, q⟩
  have T' := T.b
  have tail : ∀ (L : List (Str × Str)) (G1 S1 : Nat) (u1 u2 u3 u4 : Option D), 0 < L.length → L.length ≤ 100 → (∀ x ∈ L, Asks g ms first dn lf x.1 x.2) →
      SXs g (bodyC ["_law_box_here", "_law_desk", "_law_marks_here", "_law_first", "_law_done", "_law_left", "_law_many", "_law_rows_here", "_law_who", "_law_hand_here", "_law_dues", "_law_line", "_law_due"] (defScope (topS 88)) 12 Ed "_law_asked_right" cd) ((defBody (topS 88)).drop 6)
        [some (.ref b), some (.ref p), some (.lst (natsD ms)), some (.lst (natsD first)), some (ldeedsD dn), some (ldeedsD lf), u1, u2, u3, u4, some (.lst (L.map pairT)), none, none] (mup M b (boxO G1 S1)) (bodyO Qd) := fun L G1 S1 u1 u2 u3 u4 hL0 hL hA => by
    refine sxs_cons ?_
    refine sx_asg ?_
    refine ex_call (ok__law_pick T') (Nat.le_of_ble_eq_true rfl) rfl ?_
    refine ax2 ?_
    refine ex_name (i := 0) rfl rfl rfl ?_
    refine ex_name (i := 10) rfl rfl rfl ?_
    refine ⟨b, G1, S1, _, L.map pairT, rfl, mup_same, .inl rfl, by rw [List.length_map]; exact hL0, by rw [List.length_map]; omega, fun d G2 S2 hd => ?_⟩
    rw [mup_mup]
    obtain ⟨⟨z, t⟩, hx, rfl⟩ := List.mem_map.mp hd
    obtain ⟨hz, ht, ask⟩ := hA _ hx
    have A1 : LawAt g (mup M b (boxO G2 S2)) p s ms first dn lf := A.box hM
    refine gx_tup (n := 2) ⟨_, rfl, rfl, ?_⟩
    refine gxs_cons ?_
    refine gx_name (i := 11) rfl rfl ?_
    refine gxs_cons ?_
    refine gx_name (i := 12) rfl rfl ?_
    refine gxs_nil ?_
    refine sxs_one ?_
    refine sx_ret ?_
    refine ex_and ?_
    refine ex_eq ?_
    refine ex_repr rfl T'.f_repr ?_
    refine ex_meth (ok_Desk_say T) T'.cls_Desk (Nat.le_of_ble_eq_true rfl) ?_
    refine ex_name (i := 1) rfl rfl rfl ?_
    refine ⟨_, _, A1.hp, by decide, ?_⟩
    refine ax1 ?_
    refine ex_name (i := 11) rfl rfl rfl ?_
    refine ⟨p, s, ms, _, _, _, _, _, rfl, A1.desk, .inr ⟨z, rfl, hz, rfl⟩, ask _ p s b G2 S2 _ _ A1 mup_same fun M2 s2 A2 e2 hM2 => ?_⟩
    refine ⟨ht.repr, ?_⟩
    refine ex_repr rfl T'.f_repr ?_
    refine ex_name (i := 12) rfl rfl rfl ?_
    refine ⟨ht.repr, ?_⟩
    refine v_same ?_
    refine ex_bone ?_
    refine ex_eq ?_
    refine ex_methK (kmk_say T) T'.cls_Desk (Nat.le_of_ble_eq_true rfl) ?_
    refine ex_name (i := 1) rfl rfl rfl ?_
    refine ⟨p, _, _, rfl, A2.hp, by decide, ?_⟩
    refine ex_name (i := 11) rfl rfl rfl ?_
    refine ⟨p, s2, ms, _, _, _, _, _, rfl, A2.desk, .inr ⟨z, rfl, hz, rfl⟩, ask _ p s2 b G2 S2 _ _ A2 hM2 fun M3 s3 A3 e3 hM3 => ?_⟩
    refine ex_name (i := 12) rfl rfl rfl ?_
    refine v_eq_str ?_
    rw [decide_eq_true rfl]
    exact rt_of (q M3 s3 G2 S2 ((TabEq.box hM).trans (e2.trans e3)) hM3 A3)
  have h8 := A.gm.mo.hi
  have hlo := A.gm.mo.lo
  have hc := A.cf.hi
  have hc1 := A.cf.lo
  have hl := A.hl
  have h10 : (10 : Nat) ^ 10 = 10000000000 := by decide
  obtain ⟨sm1, sm2, sm3, _, _⟩ := A.smalls
  have TO := A.told
  have hdn : ∀ d ∈ dn, d.1 < ms.length := fun d h => (A.hd d (List.mem_append_left _ h)).1
  have hlf : ∀ d ∈ lf, d.1 < ms.length := fun d h => (A.hd d (List.mem_append_right _ h)).1
  have hlast : ∀ k, lastHand dn = some k → k < 10 ^ 10 := fun k h => by
    obtain ⟨d, h1, rfl⟩ := Option.map_eq_some_iff.mp h
    have := hdn d (List.mem_of_getLast? h1)
    omega
  have hnext : ∀ k, nextHand lf = some k → k < 10 ^ 10 := fun k h => by
    obtain ⟨d, h1, rfl⟩ := Option.map_eq_some_iff.mp h
    have := hlf d (List.mem_of_head? h1)
    omega
  refine sxs_cons ?_
  refine sx_par (i := 6) (j := 7) rfl rfl (by decide) rfl rfl (by walk_at "sw") ?_
  refine ax2 ?_
  refine ex_len rfl T'.f_len ?_
  refine ex_name (i := 2) rfl rfl rfl ?_
  refine v_len_lst ?_
  rw [natsD_len]
  refine ex_call (ok__law_led T') (Nat.le_of_ble_eq_true rfl) rfl ?_
  refine ax5 ?_
  refine ex_name (i := 2) rfl rfl rfl ?_
  refine ex_call (ok__law_size T') (Nat.le_of_ble_eq_true rfl) rfl ?_
  refine ax1 ?_
  refine ex_name (i := 2) rfl rfl rfl ?_
  refine ⟨ms, rfl, A.gm.mo, ?_⟩
  refine ex_name (i := 3) rfl rfl rfl ?_
  refine ex_name (i := 4) rfl rfl rfl ?_
  refine ex_name (i := 5) rfl rfl rfl ?_
  refine ⟨ms, first, dn, lf, rfl, A.gm, hc, A.hd, A.hl, ?_⟩
  refine ⟨_, _, rfl, ?_⟩
  refine sxs_cons ?_
  refine sx_set (i := 8) rfl rfl ?_
  refine EX.imp (Q := fun d1 M1 => d1 = .str (handT (lastHand dn) ++ " " ++ handT (nextHand lf)) ∧ M1 = M) ?_ ?_
  · refine ex_add ?_
    refine ex_add ?_
    refine ex_call (ok__law_hand T') (Nat.le_of_ble_eq_true rfl) rfl ?_
    refine ax1 ?_
    refine EX.imp (Q := fun d1 M1 => d1 = optD (lastHand dn) ∧ M1 = M) ?_ ?_
    · refine ex_if ?_
      refine tx_ne ?_
      refine ex_name (i := 4) rfl rfl rfl ?_
      refine ex_lst ?_
      refine ax_nil ?_
      refine ⟨by show 0 ≤ sizeLine; decide, ?_⟩
      refine v_ne_deeds ?_
      refine v_bl ?_
      rcases List.eq_nil_or_concat dn with rfl | ⟨dn', d, hd⟩
      · refine cnd_pf (by simp) ?_
        refine ex_non ?_
        exact ⟨rfl, rfl⟩
      · obtain rfl : dn = dn' ++ [d] := by rw [hd, List.concat_eq_append]
        refine cnd_pt (by simp) ?_
        refine ex_ixa ?_
        refine ex_ixa ?_
        refine ex_name (i := 4) rfl rfl rfl ?_
        refine ex_neg ?_
        refine ex_int ?_
        refine v_neg_int ?_
        refine v_ix_lst (d := deedD d) (by rw [List.map_append]; exact atI_last) ?_
        refine ex_int ?_
        refine v_ix_tup (d := natD d.1) (atI_nat (n := 0) rfl) ?_
        refine ⟨?_, rfl⟩
        unfold lastHand
        rw [List.getLast?_append]
        rfl
    rintro _ M1 ⟨rfl, hM1⟩
    have hM1 := hM1.symm
    subst hM1
    refine ⟨lastHand dn, rfl, hlast, ?_⟩
    refine ex_str ?_
    have k1 := handT_len hlast
    have k2 := handT_len hnext
    have k3 : (" " : Str).length = 1 := by decide +kernel
    have hz2 := sizeLine_eq
    refine v_add_str (by omega) ?_
    refine ex_call (ok__law_hand T') (Nat.le_of_ble_eq_true rfl) rfl ?_
    refine ax1 ?_
    refine EX.imp (Q := fun d1 M1 => d1 = optD (nextHand lf) ∧ M1 = M) ?_ ?_
    · refine ex_if ?_
      refine tx_ne ?_
      refine ex_name (i := 5) rfl rfl rfl ?_
      refine ex_lst ?_
      refine ax_nil ?_
      refine ⟨by show 0 ≤ sizeLine; decide, ?_⟩
      refine v_ne_deeds ?_
      refine v_bl ?_
      cases lf with
      | nil =>
        refine cnd_pf (by simp) ?_
        refine ex_non ?_
        exact ⟨rfl, rfl⟩
      | cons d lf =>
        refine cnd_pt (by simp) ?_
        refine ex_ixa ?_
        refine ex_ixa ?_
        refine ex_name (i := 5) rfl rfl rfl ?_
        refine ex_int ?_
        refine v_ix_lst (d := deedD d) (atI_nat (n := 0) rfl) ?_
        refine ex_int ?_
        refine v_ix_tup (d := natD d.1) (atI_nat (n := 0) rfl) ?_
        exact ⟨rfl, rfl⟩
    rintro _ M1 ⟨rfl, hM1⟩
    have hM1 := hM1.symm
    subst hM1
    refine ⟨nextHand lf, rfl, hnext, ?_⟩
    refine v_add_str (by rw [str_len_app]; omega) ?_
    exact ⟨rfl, rfl⟩
  rintro _ M1 ⟨rfl, hM1⟩
  have hM1 := hM1.symm
  subst hM1
  have hz2 := sizeLine_eq
  have smc : Small (cellsAt first dn) := A.desk.c1
  have lcs : (cellsAt first dn).length = first.length := cellsAt_len
  have rwD : ∀ l ∈ dn.map dl, 0 < l.length ∧ l.length ≤ 4 ∧ Small l := fun l h => by
    obtain ⟨d, hd, rfl⟩ := List.mem_map.mp h
    exact ⟨(show 0 < 3 by decide), (show 3 ≤ 4 by decide), sm2 d hd⟩
  have rwL : ∀ l ∈ lf.map dl, 0 < l.length ∧ l.length ≤ 4 ∧ Small l := fun l h => by
    obtain ⟨d, hd, rfl⟩ := List.mem_map.mp h
    exact ⟨(show 0 < 3 by decide), (show 3 ≤ 4 by decide), sm3 d hd⟩
  refine sxs_cons ?_
  refine sx_set (i := 9) rfl rfl ?_
  refine ex_call (ok__law_take T') (Nat.le_of_ble_eq_true rfl) rfl ?_
  refine ax2 ?_
  refine ex_name (i := 0) rfl rfl rfl ?_
  refine ex_add ?_
  refine ex_name (i := 6) rfl rfl rfl ?_
  refine ex_int ?_
  refine v_add_nat (n := 1) ?_
  refine ⟨b, G, S, ms.length + 1, rfl, hM, by omega, by omega, fun k G1 S1 hk => ?_⟩
  refine sxs_cons ?_
  refine sx_set (i := 10) rfl rfl ?_
  refine ex_lst ?_
  refine ax3 ?_
  refine ex_tup ?_
  refine ax2 ?_
  refine ex_str ?_
  refine ex_name (i := 8) rfl rfl rfl ?_
  refine ⟨by show 2 ≤ sizeLine; decide, ?_⟩
  refine ex_tup ?_
  refine ax2 ?_
  refine ex_str ?_
  refine ex_call (ok__law_row T') (Nat.le_of_ble_eq_true rfl) rfl ?_
  refine ax1 ?_
  refine ex_call (ok__law_cells T') (Nat.le_of_ble_eq_true rfl) rfl ?_
  refine ax2 ?_
  refine ex_name (i := 3) rfl rfl rfl ?_
  refine ex_name (i := 4) rfl rfl rfl ?_
  refine ⟨first, dn, rfl, fun d h => (A.hd d (List.mem_append_left _ h)).2.1, ?_⟩
  refine ⟨_, cellsAt first dn, rfl, .inl rfl, by omega, smc, ?_⟩
  refine ⟨by show 2 ≤ sizeLine; decide, ?_⟩
  refine ex_tup ?_
  refine ax2 ?_
  refine ex_str ?_
  refine ex_call (ok__law_row T') (Nat.le_of_ble_eq_true rfl) rfl ?_
  refine ax1 ?_
  refine ex_name (i := 3) rfl rfl rfl ?_
  refine ⟨_, first, rfl, .inl rfl, by omega, sm1, ?_⟩
  refine ⟨by show 2 ≤ sizeLine; decide, ?_⟩
  refine ⟨by show 3 ≤ sizeLine; decide, ?_⟩
  rw [← rowT_nums (l := cellsAt first dn) (by omega), ← rowT_nums (l := first) (by omega)]
  refine sxs_cons ?_
  refine sx_set (i := 10) rfl rfl ?_
  refine ex_add ?_
  refine ex_name (i := 10) rfl rfl rfl ?_
  refine ex_lst ?_
  refine ax3 ?_
  refine ex_tup ?_
  refine ax2 ?_
  refine ex_str ?_
  refine ex_call (ok__law_rows T') (Nat.le_of_ble_eq_true rfl) rfl ?_
  refine ax1 ?_
  refine ex_name (i := 4) rfl rfl rfl ?_
  refine ⟨_, dn.map dl, rfl, .inl (ldeeds_rows dn), by rw [List.length_map]; omega, rwD, ?_⟩
  refine ⟨by show 2 ≤ sizeLine; decide, ?_⟩
  refine ex_tup ?_
  refine ax2 ?_
  refine ex_str ?_
  refine ex_call (ok__law_rows T') (Nat.le_of_ble_eq_true rfl) rfl ?_
  refine ax1 ?_
  refine ex_name (i := 5) rfl rfl rfl ?_
  refine ⟨_, lf.map dl, rfl, .inl (ldeeds_rows lf), by rw [List.length_map]; omega, rwL, ?_⟩
  refine ⟨by show 2 ≤ sizeLine; decide, ?_⟩
  refine ex_tup ?_
  refine ax2 ?_
  refine ex_str ?_
  refine ex_str ?_
  refine ⟨by show 2 ≤ sizeLine; decide, ?_⟩
  refine ⟨by show 3 ≤ sizeLine; decide, ?_⟩
  refine v_add_lst (by show 3 + 3 ≤ sizeLine; decide) ?_
  have hd5 : ("done " : Str).length = 5 := by decide +kernel
  have hu7 : ("undone " : Str).length = 7 := by decide +kernel
  have hk8 : k < 10 ^ 10 := by omega
  have hks : (strN k).length ≤ 10 := strN_len (by decide) hk8
  have hks' : (toString ((k : Nat) : Int) : Str).length ≤ 10 := hks
  have k1 := handT_len hlast
  have k2 := handT_len hnext
  have k3 : (" " : Str).length = 1 := by decide +kernel
  have pW : Plain (handT (lastHand dn) ++ " " ++ handT (nextHand lf)) := by
    have p1 := plain_handT hlast
    have p2 := plain_handT hnext
    exact plain_app (by rw [str_len_app]; omega) (fun c hc => by
      rw [TL.tl_append] at hc
      rcases List.mem_append.mp hc with h | h
      · exact p1.2 c h
      · rw [show TL.tl (" " : Str) = [32] from by decide +kernel, List.mem_singleton] at h
        rw [h]
        decide) p2.2
  have base : ∀ x ∈ [(("who" : Str), handT (lastHand dn) ++ " " ++ handT (nextHand lf)), ("cells", numsT (cellsAt first dn)), ("first", numsT first), ("deeds", rowsT (dn.map dl)), ("left", rowsT (lf.map dl)), ("anew", "ok")], Asks g ms first dn lf x.1 x.2 := fun x hx => by
    have h6 : x = (("who" : Str), handT (lastHand dn) ++ " " ++ handT (nextHand lf)) ∨ x = (("cells" : Str), numsT (cellsAt first dn)) ∨ x = (("first" : Str), numsT first) ∨ x = (("deeds" : Str), rowsT (dn.map dl)) ∨ x = (("left" : Str), rowsT (lf.map dl)) ∨ x = (("anew" : Str), ("ok" : Str)) := by
      simpa only [List.mem_cons, List.not_mem_nil, or_false] using hx
    rcases h6 with rfl | rfl | rfl | rfl | rfl | rfl
    · exact asks_who pW
    · exact asks_cells (plain_nums (by omega) smc)
    · exact asks_first (plain_nums (by omega) sm1)
    · exact asks_deeds (plain_rows (by rw [List.length_map]; omega) fun l hl => ⟨(rwD l hl).2.1, (rwD l hl).2.2⟩)
    · exact asks_left (plain_rows (by rw [List.length_map]; omega) fun l hl => ⟨(rwL l hl).2.1, (rwL l hl).2.2⟩)
    · exact asks_anew
  refine sxs_cons ?_
  refine sx_if ?_
  refine tx_lt ?_
  refine ex_name (i := 9) rfl rfl rfl ?_
  refine ex_name (i := 6) rfl rfl rfl ?_
  refine v_lt_nat ?_
  refine v_bl ?_
  refine cnd_p (fun hkm => ?_) fun hkm => ?_
  · have ld : (ledDone ms first dn)[k]? = some ((ledDone ms first dn).getD k []) := getD_at (by rw [TO.sh.dn.len]; exact hkm)
    have lg : (ledGone ms first dn lf)[k]? = some ((ledGone ms first dn lf).getD k []) := getD_at (by rw [TO.sh.un.len]; exact hkm)
    have md := List.mem_of_getElem? ld
    have mg := List.mem_of_getElem? lg
    have sd := TO.sh.dn.short _ md
    have sg := TO.sh.un.short _ mg
    have rwd : ∀ l ∈ ((ledDone ms first dn).getD k []).map el, 0 < l.length ∧ l.length ≤ 4 ∧ Small l := fun l h => by
      obtain ⟨e, he, rfl⟩ := List.mem_map.mp h
      exact ⟨(show 0 < 4 by decide), (show 4 ≤ 4 by decide), logs_small A.gm.mo TO.sh.co.hi TO.sh.dn _ md e he⟩
    have rwg : ∀ l ∈ ((ledGone ms first dn lf).getD k []).map el, 0 < l.length ∧ l.length ≤ 4 ∧ Small l := fun l h => by
      obtain ⟨e, he, rfl⟩ := List.mem_map.mp h
      exact ⟨(show 0 < 4 by decide), (show 4 ≤ 4 by decide), logs_small A.gm.mo TO.sh.co.hi TO.sh.un _ mg e he⟩
    refine sxs_one ?_
    refine sx_set (i := 10) rfl rfl ?_
    refine ex_add ?_
    refine ex_name (i := 10) rfl rfl rfl ?_
    refine ex_lst ?_
    refine ax2 ?_
    refine ex_tup ?_
    refine ax2 ?_
    refine ex_add ?_
    refine ex_str ?_
    refine ex_strc rfl T'.f_str ?_
    refine ex_name (i := 9) rfl rfl rfl ?_
    refine ⟨_, rfl, strN_log (n := k) (by omega), ?_⟩
    refine v_add_str (by rw [hd5]; omega) ?_
    refine ex_call (ok__law_rows T') (Nat.le_of_ble_eq_true rfl) rfl ?_
    refine ax1 ?_
    refine ex_ixa ?_
    refine ex_ixa ?_
    refine ex_name (i := 7) rfl rfl rfl ?_
    refine ex_int ?_
    refine v_ix_tup (d := logsD (ledDone ms first dn)) (atI_nat (n := 1) rfl) ?_
    refine ex_name (i := 9) rfl rfl rfl ?_
    refine v_ix_tup (logs_at ld) ?_
    rw [rows_ents]
    refine ⟨_, _, rfl, .inr rfl, by rw [List.length_map]; omega, rwd, ?_⟩
    refine ⟨by show 2 ≤ sizeLine; decide, ?_⟩
    refine ex_tup ?_
    refine ax2 ?_
    refine ex_add ?_
    refine ex_str ?_
    refine ex_strc rfl T'.f_str ?_
    refine ex_name (i := 9) rfl rfl rfl ?_
    refine ⟨_, rfl, strN_log (n := k) (by omega), ?_⟩
    refine v_add_str (by rw [hu7]; omega) ?_
    refine ex_call (ok__law_rows T') (Nat.le_of_ble_eq_true rfl) rfl ?_
    refine ax1 ?_
    refine ex_ixa ?_
    refine ex_ixa ?_
    refine ex_name (i := 7) rfl rfl rfl ?_
    refine ex_int ?_
    refine v_ix_tup (d := logsD (ledGone ms first dn lf)) (atI_nat (n := 2) rfl) ?_
    refine ex_name (i := 9) rfl rfl rfl ?_
    refine v_ix_tup (logs_at lg) ?_
    rw [rows_ents]
    refine ⟨_, _, rfl, .inr rfl, by rw [List.length_map]; omega, rwg, ?_⟩
    refine ⟨by show 2 ≤ sizeLine; decide, ?_⟩
    refine ⟨by show 2 ≤ sizeLine; decide, ?_⟩
    refine v_add_lst (by show 6 + 2 ≤ sizeLine; decide) ?_
    refine tail [(("who" : Str), handT (lastHand dn) ++ " " ++ handT (nextHand lf)), ("cells", numsT (cellsAt first dn)), ("first", numsT first), ("deeds", rowsT (dn.map dl)), ("left", rowsT (lf.map dl)), ("anew", "ok"), ("done " ++ strN k, rowsT (((ledDone ms first dn).getD k []).map el)), ("undone " ++ strN k, rowsT (((ledGone ms first dn lf).getD k []).map el))] G1 S1 _ _ _ _ (show 0 < 8 by decide) (show 8 ≤ 100 by decide) fun x hx => ?_
    have hx : x ∈ [(("who" : Str), handT (lastHand dn) ++ " " ++ handT (nextHand lf)), ("cells", numsT (cellsAt first dn)), ("first", numsT first), ("deeds", rowsT (dn.map dl)), ("left", rowsT (lf.map dl)), ("anew", "ok")] ++ [(("done " ++ strN k : Str), rowsT (((ledDone ms first dn).getD k []).map el)), ("undone " ++ strN k, rowsT (((ledGone ms first dn lf).getD k []).map el))] := hx
    rcases List.mem_append.mp hx with hx | hx
    · exact base x hx
    · have h2 : x = (("done " ++ strN k : Str), rowsT (((ledDone ms first dn).getD k []).map el)) ∨ x = (("undone " ++ strN k : Str), rowsT (((ledGone ms first dn lf).getD k []).map el)) := by
        simpa only [List.mem_cons, List.not_mem_nil, or_false] using hx
      rcases h2 with rfl | rfl
      · exact asks_done (plain_rows (by rw [List.length_map]; omega) fun l hl => ⟨(rwd l hl).2.1, (rwd l hl).2.2⟩) (by omega) (fun _ => rfl) fun h => absurd hkm h
      · exact asks_undone (plain_rows (by rw [List.length_map]; omega) fun l hl => ⟨(rwg l hl).2.1, (rwg l hl).2.2⟩) (by omega) (fun _ => rfl) fun h => absurd hkm h
  ·
    refine sxs_one ?_
    refine sx_set (i := 10) rfl rfl ?_
    refine ex_add ?_
    refine ex_name (i := 10) rfl rfl rfl ?_
    refine ex_lst ?_
    refine ax2 ?_
    refine ex_tup ?_
    refine ax2 ?_
    refine ex_add ?_
    refine ex_str ?_
    refine ex_strc rfl T'.f_str ?_
    refine ex_name (i := 9) rfl rfl rfl ?_
    refine ⟨_, rfl, strN_log (n := k) (by omega), ?_⟩
    refine v_add_str (by rw [hd5]; omega) ?_
    refine ex_str ?_
    refine ⟨by show 2 ≤ sizeLine; decide, ?_⟩
    refine ex_tup ?_
    refine ax2 ?_
    refine ex_add ?_
    refine ex_str ?_
    refine ex_strc rfl T'.f_str ?_
    refine ex_name (i := 9) rfl rfl rfl ?_
    refine ⟨_, rfl, strN_log (n := k) (by omega), ?_⟩
    refine v_add_str (by rw [hu7]; omega) ?_
    refine ex_str ?_
    refine ⟨by show 2 ≤ sizeLine; decide, ?_⟩
    refine ⟨by show 2 ≤ sizeLine; decide, ?_⟩
    refine v_add_lst (by show 6 + 2 ≤ sizeLine; decide) ?_
    have pR : Plain ("refused" : Str) := ⟨by decide +kernel, by decide +kernel⟩
    refine tail [(("who" : Str), handT (lastHand dn) ++ " " ++ handT (nextHand lf)), ("cells", numsT (cellsAt first dn)), ("first", numsT first), ("deeds", rowsT (dn.map dl)), ("left", rowsT (lf.map dl)), ("anew", "ok"), ("done " ++ strN k, "refused"), ("undone " ++ strN k, "refused")] G1 S1 _ _ _ _ (show 0 < 8 by decide) (show 8 ≤ 100 by decide) fun x hx => ?_
    have hx : x ∈ [(("who" : Str), handT (lastHand dn) ++ " " ++ handT (nextHand lf)), ("cells", numsT (cellsAt first dn)), ("first", numsT first), ("deeds", rowsT (dn.map dl)), ("left", rowsT (lf.map dl)), ("anew", "ok")] ++ [(("done " ++ strN k : Str), ("refused" : Str)), ("undone " ++ strN k, "refused")] := hx
    rcases List.mem_append.mp hx with hx | hx
    · exact base x hx
    · have h2 : x = (("done " ++ strN k : Str), ("refused" : Str)) ∨ x = (("undone " ++ strN k : Str), ("refused" : Str)) := by
        simpa only [List.mem_cons, List.not_mem_nil, or_false] using hx
      rcases h2 with rfl | rfl
      · exact asks_done pR (by omega) (fun h => absurd h hkm) fun _ => rfl
      · exact asks_undone pR (by omega) (fun h => absurd h hkm) fun _ => rfl
end DL

set_option Elab.async false
set_option linter.all false
set_option maxRecDepth 100000
set_option maxHeartbeats 1000000
/-! # Lists of constants; lines that are refused, lines of no form -/
namespace DL
open PySem PySem.Spec PyProof.Rows L2
open Evl (Ex)
/-! ### constants -/
def kstD : Expr → Option D
  | .Constant .none _ _ => some .non
  | .Constant (.int i) _ _ => some (.int i)
  | .Constant (.str z) _ _ => some (.str z)
  | _ => none
def kstDs : List Expr → Option (List D)
  | [] => some []
  | e :: r => match kstD e, kstDs r with
    | some d, some ds => some (d :: ds)
    | _, _ => none
def rowD : Expr → Option D
  | .Tuple es _ _ => (kstDs es).map .tup
  | e => kstD e
def rowDs : List Expr → Option (List D)
  | [] => some []
  | e :: r => match rowD e, rowDs r with
    | some d, some ds => some (d :: ds)
    | _, _ => none
section
variable {g : Gb} {c : Cz} {δ : Sl} {M : Mem} {Q : D → Mem → Prop}
theorem kst_plain {e : Expr} {es : List Expr} {d : D} (h : kstD e = some d) (env : Env) : starEach (e :: es) env = (false, eval e env) :: starEach es env := by
  unfold kstD at h
  split at h
  · rfl
  · rfl
  · rfl
  · cases h
theorem ex_kst {e : Expr} {d : D} (h : kstD e = some d) (q : Q d M) : EX g c e δ M Q := by
  unfold kstD at h
  split at h
  · cases h
    exact ex_non q
  · cases h
    exact ex_int q
  · cases h
    exact ex_str q
  · cases h
theorem ax_kst : ∀ {es : List Expr} {ds : List D} {QA : List D → Mem → Prop}, kstDs es = some ds → QA ds M → AX g c es δ M QA
  | [], ds, QA, h, q => by
    cases h
    exact ax_nil q
  | e :: r, ds, QA, h, q => by
    unfold kstDs at h
    split at h
    · rename_i d ds' h1 h2
      cases h
      exact ax_cons (ex_kst h1 (ax_kst (QA := fun ds M2 => QA (d :: ds) M2) h2 q)) fun env => kst_plain h1 env
    · cases h
theorem kst_len : ∀ {es : List Expr} {ds : List D}, kstDs es = some ds → ds.length = es.length
  | [], ds, h => by
    cases h
    rfl
  | e :: r, ds, h => by
    unfold kstDs at h
    split at h
    · rename_i d ds' h1 h2
      cases h
      rw [List.length_cons, List.length_cons, kst_len h2]
    · cases h
theorem ex_row {e : Expr} {d : D} (h : rowD e = some d) (hl : ∀ es k p, e = .Tuple es k p → es.length ≤ 100) (q : Q d M) : EX g c e δ M Q := by
  unfold rowD at h
  split at h
  · rename_i es k p
    obtain ⟨ds, h1, rfl⟩ := Option.map_eq_some_iff.mp h
    have := kst_len h1
    have h3 := hl es k p rfl
    have h4 := sizeLine_eq
    exact ex_tup (ax_kst h1 ⟨by omega, q⟩)
  · exact ex_kst h q
theorem row_plain {e : Expr} {es : List Expr} {d : D} (h : rowD e = some d) (env : Env) : starEach (e :: es) env = (false, eval e env) :: starEach es env := by
  unfold rowD at h
  split at h
  · rfl
  · exact kst_plain h env
theorem ax_rows : ∀ {es : List Expr} {ds : List D} {QA : List D → Mem → Prop}, rowDs es = some ds → (∀ e ∈ es, ∀ xs k p, e = .Tuple xs k p → xs.length ≤ 100) → QA ds M → AX g c es δ M QA
  | [], ds, QA, h, _, q => by
    cases h
    exact ax_nil q
  | e :: r, ds, QA, h, hl, q => by
    unfold rowDs at h
    split at h
    · rename_i d ds' h1 h2
      cases h
      exact ax_cons (ex_row h1 (hl e List.mem_cons_self) (ax_rows (QA := fun ds M2 => QA (d :: ds) M2) h2 (fun e he => hl e (List.mem_cons_of_mem _ he)) q)) fun env => row_plain h1 env
    · cases h
end
def shortB (es : List Expr) : Bool := es.all fun e => match e with
  | .Tuple xs _ _ => decide (xs.length ≤ 100)
  | _ => true
theorem shortB_ok {es : List Expr} (h : shortB es = true) : ∀ e ∈ es, ∀ xs k p, e = .Tuple xs k p → xs.length ≤ 100 := fun e he xs k p q => by
  have h1 := List.all_eq_true.mp h e he
  subst q
  exact of_decide_eq_true h1
/-! ### lines that are refused -/
variable {g : Gb}
section
variable {ms first : List Nat} {dn lf : List Deed}
theorem asks_put {h c v : Nat} (h1 : h < 1000000000) (h2 : c < 1000000000) (h3 : v < 1000000000) (hw : ¬ h < ms.length ∨ (h < ms.length ∧ ¬ c < first.length)) : Asks g ms first dn lf ("put " ++ rowT [h, c, v]) "refused" := by
  have h10 : (10 : Nat) ^ 10 = 10000000000 := by decide
  have hsm : Small [h, c, v] := fun n hn => by
    have : n = h ∨ n = c ∨ n = v := by simpa using hn
    rcases this with rfl | rfl | rfl <;> omega
  have hrow : (rowT [h, c, v]).length ≤ 100 := by
    rw [← rowT_nums (l := [h, c, v]) (show 0 < 3 by decide)]
    exact numsT_len (show 3 ≤ 4 by decide) hsm
  have hput : ("put " : Str).length = 4 := by decide +kernel
  refine ⟨by rw [str_len_app]; omega, ⟨by decide +kernel, by decide +kernel⟩, fun M p s b G S Q E A hM q => ?_⟩
  rw [show Txt.split ("put " ++ rowT [h, c, v]) " " = (["put", strN h, strN c, strN v] : List Str) from split_cmd (w := "put") (w' := "put ") (l := [h, c, v]) (by decide +kernel) (by decide +kernel) (List.cons_ne_nil _ _)]
  refine .inr ⟨fun h => absurd h.1 (show ¬ (4 = 1) by decide), .inr ?_⟩
  have e : ((["put", strN h, strN c, strN v] : List Str).drop 1).map toldN = [h, c, v].map some := nums_some (l := [h, c, v]) fun n hn => by
    have : n = h ∨ n = c ∨ n = v := by simpa using hn
    rcases this with rfl | rfl | rfl <;> omega
  rw [e]
  have q0 := q M s A (TabEq.refl M) hM
  refine ⟨noneIn_some _, .inl ⟨rfl, h, c, v, vals_some _, h3, fun x y => ?_, fun _ _ => ⟨.inl rfl, q0⟩, fun _ => ⟨.inr rfl, q0⟩⟩⟩
  rcases hw with z | ⟨_, z⟩
  · exact absurd x z
  · rw [cellsAt_len] at y
    exact absurd y z
end
/-! ### lines of no form -/
abbrev OddS (z : Str) : Prop := z.length ≤ 10000 ∧ ¬ ((Txt.split z " ").length = 1 ∧ (Txt.split z " ").getD 0 Str.empty ∈ plains) ∧ (noneIn (((Txt.split z " ").drop 1).map toldN) = true ∨
  (noneIn (((Txt.split z " ").drop 1).map toldN) = false ∧ ¬ ((Txt.split z " ").getD 0 Str.empty = "put" ∧ (valsOf (((Txt.split z " ").drop 1).map toldN)).length = 3) ∧ ¬ (((Txt.split z " ").getD 0 Str.empty = "done" ∨ (Txt.split z " ").getD 0 Str.empty = "undone") ∧ (valsOf (((Txt.split z " ").drop 1).map toldN)).length = 1)))
theorem odd_say {p s : Addr} {ms cs : List Nat} {dn un : List (List Ent)} {M : Mem} {Q : D → Mem → Prop} {E : Addr → List Str → List D → Mem → Prop} {z : Str} (h : OddS z) (q : badText g 0 E M) : SaySp g p s ms cs dn un (Txt.split z " ") M Q E := by
  obtain ⟨h1, h2, h3⟩ := h
  refine .inr ⟨h2, ?_⟩
  rcases h3 with h3 | ⟨h3, h4, h5⟩
  · exact .inl ⟨h3, q⟩
  · exact .inr ⟨h3, .inr (.inr (.inr ⟨h4, h5, .inl ⟨rfl, q⟩⟩))⟩
theorem none_say {p s : Addr} {ms cs : List Nat} {dn un : List (List Ent)} {M : Mem} {Q : D → Mem → Prop} {E : Addr → List Str → List D → Mem → Prop} (q : badText g 0 E M) : SaySp g p s ms cs dn un [Str.empty] M Q E :=
  .inr ⟨by decide +kernel, .inr ⟨rfl, .inr (.inr (.inr ⟨by decide +kernel, by decide +kernel, .inl ⟨rfl, q⟩⟩))⟩⟩
/-- a thing that is no line -/
inductive OddD : D → Prop
  | str {z : Str} (h : OddS z) : OddD (.str z)
  | non : OddD .non
  | int {i : Int} : OddD (.int i)
  | tup {ds : List D} : OddD (.tup ds)
def oddB (d : D) : Bool := match d with
  | .str z => decide (OddS z)
  | .non => true
  | .int _ => true
  | .tup _ => true
  | _ => false
theorem oddB_ok {d : D} (h : oddB d = true) : OddD d := by
  cases d with
  | str z => exact .str (of_decide_eq_true h)
  | non => exact .non
  | int i => exact .int
  | tup ds => exact .tup
  | _ => cases h
theorem odd_sp {d : D} (h : OddD d) {p s : Addr} {ms first : List Nat} {dn lf : List Deed} {M : Mem} {Q : D → Mem → Prop} {E : Addr → List Str → List D → Mem → Prop} (A : LawAt g M p s ms first dn lf) (q : badText g 0 E M) : sp_say g [.ref p, d] M Q E := by
  cases h with
  | @str z h => exact ⟨p, s, ms, _, _, _, .str z, _, rfl, A.desk, .inr ⟨z, rfl, h.1, rfl⟩, odd_say h q⟩
  | non => exact ⟨p, s, ms, _, _, _, .non, _, rfl, A.desk, .inl ⟨"NoneType", rfl, rfl, rfl⟩, none_say q⟩
  | int => exact ⟨p, s, ms, _, _, _, .int _, _, rfl, A.desk, .inl ⟨"int", rfl, rfl, rfl⟩, none_say q⟩
  | tup => exact ⟨p, s, ms, _, _, _, .tup _, _, rfl, A.desk, .inl ⟨"tuple", rfl, rfl, rfl⟩, none_say q⟩
def odd1 : List D := [.str "", .str " ", .str "put", .str "put 0 0", .str "put 0 0 00", .str "put 0 0 1000000000", .str "put 0  0 1", .str "put 0 0 -1", .str "put 0 0 1 ", .str "put 0 0 1 0", .str "undo 0"]
def odd2 : List D := [.str "Undo", .str "who ", .str " who", .str "done", .str "done 0 0", .str "done x", .str "undone 01", .str "anew 1", .str "cells\n", .non, .int 5, .tup [.str "undo"], .str "left left", .str "put a 0 0", .str "first,"]
theorem odd_all : (odd1 ++ odd2).all oddB = true := by decide +kernel
end DL

set_option Elab.async false
set_option linter.all false
set_option maxRecDepth 100000
set_option maxHeartbeats 1000000
/-! # bad lines right -/
namespace DL
open PySem PySem.Spec PyProof.Rows L2
open Evl (Ex)
open LamX (TabB lamSB)
local macro_rules | `(tactic| walk_at "sw") => `(tactic| (intro env h; obtain ⟨sc, _, _, _, _, _, _, _, _⟩ := env; (have h : sc = _ := h); subst h; rfl))
variable {g : Gb}
abbrev cB (g : Gb) : Addr := He.codeOf g.K pB
abbrev tB (g : Gb) : Addr := He.tabOf g.K (cB g)
abbrev cX (g : Gb) : Addr := He.codeOf g.K pX
abbrev tX (g : Gb) : Addr := He.tabOf g.K (cX g)
/-- the two tables of code objects -/
def TTs (g : Gb) : List (Addr × Str) := [(tB g, (("_law_bad_lines_right" : Str) ++ ".<locals>.") ++ "<lambda>"), (tX g, (("_law_texts_right" : Str) ++ ".<locals>.") ++ "<lambda>")]
structure Tl (g : Gb) : Prop where
  t : Tx g
  b : TabB g.base g.mg (cB g) (tB g)
  x : TabB g.base g.mg (cX g) (tX g)
  ne : tB g ≠ tX g
def TabsM (g : Gb) (M : Mem) : Prop := ∀ a q, M a = some (.tab q) ↔ (a, q) ∈ TTs g
theorem TabsM.eq {M M' : Mem} (h : TabsM g M) (e : TabEq M M') : TabsM g M' := fun a q => (e a q).trans (h a q)
theorem sw_list {es : List Expr} {p : Pos} {t : Option Expr} {l : Nat} {env : Env} : swapsWith (.List es p) t l env = pure false := rfl
theorem sw_op {x y : Expr} {o : Operator} {p : Pos} {t : Option Expr} {l : Nat} {env : Env} : swapsWith (.BinOp x o y p) t l env = pure false := rfl
def sp__law_bad_lines_right (g : Gb) : DSp := fun ds M Q _ => ∃ b, ∃ G S : Nat, ∃ p s ms first dn lf, ds = [.ref b, .ref p, natD ms.length, natD first.length] ∧ M b = some (boxO G S) ∧ LawAt g M p s ms first dn lf ∧ TabsM g M ∧
  ∀ M' s', ∀ G' S' : Nat, TabEq M M' → M' b = some (boxO G' S') → LawAt g M' p s' ms first dn lf → Q (.bl true) M'
theorem ok__law_bad_lines_right (TL : Tl g) : KnG g "_law_bad_lines_right" 15 ["_law_box_here", "_law_desk", "_law_many", "_law_cells_here"] (sp__law_bad_lines_right g) := by
  have T := TL.t
  have T' := T.b
  obtain ⟨fd, F⟩ := T'.fun_ 71 (x := "_law_bad_lines_right") (m := none) (n := "_law_bad_lines_right") (q := "_law_bad_lines_right") (st := topS 90) rfl
  refine ⟨_, fd, fn_defG (pd := pB) (N := ["_law_box_here", "_law_desk", "_law_many", "_law_cells_here", "_law_line", "_law_odd", "_law_turn", "_law_bad"]) F ⟨rfl, rfl, rfl, by decide +kernel, rfl, by decide +kernel, by decide +kernel⟩ (by rintro _ _ _ _ ⟨_, _, _, _, _, _, _, _, _, rfl, _⟩; rfl) ?_, He.glo_ok T'.X T'.G (T'.c.fact 58 (f := .glo "_law_bad_lines_right") rfl), F.kp, F.binds fun _ _ _ _ _ _ us hl => match us, hl with | [_, _, _, _], _ => rfl⟩
  rintro _ M Qd Ed cd hcd ⟨b, G, S, p, s, ms, first, dn, lf, rfl, hM, A, hT, q⟩
  have h8 := A.gm.mo.hi
  have hc := A.cf.hi
  have hz2 := sizeLine_eq
  have h10 : (10 : Nat) ^ 10 = 10000000000 := by decide
  have hput : ("put " : Str).length = 4 := by decide +kernel
  have rl : ∀ {a c d : Nat}, a < 100 → c < 100 → d < 100 → (rowT [a, c, d]).length ≤ 100 ∧ Small [a, c, d] := fun {a c d} ha hc hd => by
    have sm : Small [a, c, d] := fun n hn => by
      have : n = a ∨ n = c ∨ n = d := by simpa using hn
      rcases this with rfl | rfl | rfl <;> omega
    refine ⟨?_, sm⟩
    rw [← rowT_nums (l := [a, c, d]) (show 0 < 3 by decide)]
    exact numsT_len (show 3 ≤ 4 by decide) sm
  obtain ⟨r1, s1⟩ := rl (a := ms.length) (c := 0) (d := 0) (by omega) (by omega) (by omega)
  obtain ⟨r2, s2⟩ := rl (a := 0) (c := first.length) (d := 0) (by omega) (by omega) (by omega)
  refine sxs_cons ?_
  refine sx_for ?_
  refine ix_tupl ?_
  refine ex_tup ?_
  refine ax4 ?_
  refine ex_add ?_
  refine ex_str ?_
  refine ex_call (ok__law_row T') (Nat.le_of_ble_eq_true rfl) rfl ?_
  refine ax1 ?_
  refine ex_tup ?_
  refine ax3 ?_
  refine ex_name (i := 2) rfl rfl rfl ?_
  refine ex_int ?_
  refine ex_int ?_
  refine ⟨by show 3 ≤ sizeLine; decide, ?_⟩
  refine ⟨_, [ms.length, 0, 0], rfl, .inr rfl, (show 3 ≤ 100 by decide), s1, ?_⟩
  refine v_add_str (by omega) ?_
  refine ex_add ?_
  refine ex_str ?_
  refine ex_call (ok__law_row T') (Nat.le_of_ble_eq_true rfl) rfl ?_
  refine ax1 ?_
  refine ex_tup ?_
  refine ax3 ?_
  refine ex_int ?_
  refine ex_name (i := 3) rfl rfl rfl ?_
  refine ex_int ?_
  refine ⟨by show 3 ≤ sizeLine; decide, ?_⟩
  refine ⟨_, [0, first.length, 0], rfl, .inr rfl, (show 3 ≤ 100 by decide), s2, ?_⟩
  refine v_add_str (by omega) ?_
  refine ex_str ?_
  refine ex_add ?_
  refine ex_str ?_
  refine ex_strc rfl T'.f_str ?_
  refine ex_name (i := 2) rfl rfl rfl ?_
  refine ⟨_, rfl, strN_log (n := ms.length) (by omega), ?_⟩
  have hun : ("undone " : Str).length = 7 := by decide +kernel
  have hms : (toString ((ms.length : Nat) : Int) : Str).length ≤ 10 := strN_len (n := ms.length) (by decide) (by omega)
  refine v_add_str (by rw [hun]; omega) ?_
  refine ⟨by show 4 ≤ sizeLine; decide, ?_⟩
  refine ⟨_, rfl, ?_⟩
  have pR : Plain ("refused" : Str) := ⟨by decide +kernel, by decide +kernel⟩
  have a4 : ∀ z ∈ [("put " ++ rowT [ms.length, 0, 0] : Str), "put " ++ rowT [0, first.length, 0], "done 999999999", "undone " ++ strN ms.length], Asks g ms first dn lf z "refused" := fun z hz => by
    have hz : z = ("put " ++ rowT [ms.length, 0, 0] : Str) ∨ z = "put " ++ rowT [0, first.length, 0] ∨ z = "done 999999999" ∨ z = "undone " ++ strN ms.length := by simpa only [List.mem_cons, List.not_mem_nil, or_false] using hz
    have hl1 := A.gm.mo.lo
    rcases hz with rfl | rfl | rfl | rfl
    · exact asks_put (by omega) (by omega) (by omega) (.inl (by omega))
    · exact asks_put (by omega) (by omega) (by omega) (.inr ⟨by omega, by omega⟩)
    · rw [show ("done 999999999" : Str) = "done " ++ strN 999999999 from by decide +kernel]
      exact asks_done pR (by omega) (fun h => absurd h (by omega)) fun _ => rfl
    · exact asks_undone pR (by omega) (fun h => absurd h (by omega)) fun _ => rfl
  refine for_walk (xs := [("put " ++ rowT [ms.length, 0, 0] : Str), "put " ++ rowT [0, first.length, 0], "done 999999999", "undone " ++ strN ms.length]) (f := D.str) (fun r δ' M' => (∀ z ∈ r, Asks g ms first dn lf z "refused") ∧ ∃ s' u, TabEq M M' ∧ M' b = some (boxO G S) ∧ LawAt g M' p s' ms first dn lf ∧ δ' = [some (.ref b), some (.ref p), some (natD ms.length), some (natD first.length), u, none, none, none])
    ⟨a4, s, _, TabEq.refl M, hM, A, rfl⟩ (fun _ _ _ _ => trivial) ?_ ?_
  · rintro z r δ' M' ⟨hr, s', u, e, hb, A', rfl⟩
    obtain ⟨hzl, hzp, ask⟩ := hr z List.mem_cons_self
    refine gx_name (i := 4) rfl rfl ?_
    refine sxs_one ?_
    refine sx_if ?_
    refine tx_ne ?_
    refine ex_repr rfl T'.f_repr ?_
    refine ex_meth (ok_Desk_say T) T'.cls_Desk (Nat.le_of_ble_eq_true rfl) ?_
    refine ex_name (i := 1) rfl rfl rfl ?_
    refine ⟨_, _, A'.hp, by decide, ?_⟩
    refine ax1 ?_
    refine ex_name (i := 4) rfl rfl rfl ?_
    refine ⟨p, s', ms, _, _, _, _, _, rfl, A'.desk, .inr ⟨z, rfl, hzl, rfl⟩, ask _ p s' b G S _ _ A' hb fun M2 s2 A2 e2 hM2 => ?_⟩
    refine ⟨pR.repr, ?_⟩
    refine ex_repr rfl T'.f_repr ?_
    refine ex_str ?_
    refine ⟨pR.repr, ?_⟩
    refine v_eq_str ?_
    refine v_bl ?_
    refine cnd_f (by rw [decide_eq_true rfl]; rfl) ?_
    refine sxs_nil ?_
    exact ⟨fun x hx => hr x (List.mem_cons_of_mem _ hx), s2, _, e.trans e2, hM2, A2, rfl⟩
  · rintro δ' M' ⟨_, s', u, e, hb, A', rfl⟩
    refine sxs_cons ?_
    with_reducible refine sx_set (i := 5) (hs := fun _ => sw_list) ?_ ?_ ?_
    · rfl
    · rfl
    refine ex_lst ?_
    refine ax_rows (ds := odd1) ?_ ?_ ?_
    · kernel_rfl
    · refine shortB_ok ?_
      decide +kernel
    refine ⟨by show 11 ≤ sizeLine; decide, ?_⟩
    refine sxs_cons ?_
    with_reducible refine sx_set (i := 5) (hs := fun _ => sw_op) ?_ ?_ ?_
    · rfl
    · rfl
    refine ex_add ?_
    refine ex_name (i := 5) rfl rfl rfl ?_
    refine ex_lst ?_
    refine ax_rows (ds := odd2) ?_ ?_ ?_
    · kernel_rfl
    · refine shortB_ok ?_
      decide +kernel
    refine ⟨by show 15 ≤ sizeLine; decide, ?_⟩
    refine v_add_lst (by show 11 + 15 ≤ sizeLine; decide) ?_
    have hodd : ∀ d ∈ odd1 ++ odd2, OddD d := fun d hd => oddB_ok (List.all_eq_true.mp odd_all d hd)
    have m1 : (tB g, (("_law_bad_lines_right" : Str) ++ ".<locals>.") ++ "<lambda>") ∈ TTs g := List.mem_cons_self
    have m2 : ∀ p ∈ TTs g, p.1 = tB g → p.2 = (("_law_bad_lines_right" : Str) ++ ".<locals>.") ++ "<lambda>" := fun z hz h1 => by
      rcases List.mem_cons.mp hz with rfl | hz
      · rfl
      · rw [List.mem_singleton] at hz
        subst hz
        exact absurd h1.symm TL.ne
    have hol : 0 < (odd1 ++ odd2).length ∧ (odd1 ++ odd2).length < 1000000 := by decide
    generalize odd1 ++ odd2 = od at hodd hol
    refine sxs_cons ?_
    refine sx_for ?_
    refine ix_rng1 rfl T'.f_range ?_
    refine ex_int ?_
    refine ⟨_, rfl, by decide, by decide, ?_⟩
    rw [rngD_zero]
    refine for_walk (xs := List.range 6) (fun r δ2 M2 => ∃ s2 G2 S2 u v w, TabEq M M2 ∧ M2 b = some (boxO G2 S2) ∧ LawAt g M2 p s2 ms first dn lf ∧ δ2 = [some (.ref b), some (.ref p), some (natD ms.length), some (natD first.length), u, some (.lst od), v, w]) ⟨s', G, S, _, _, _, e, hb, A', rfl⟩ (fun _ _ _ _ => trivial) ?_ ?_
    · rintro _ r δ2 M2 ⟨s2, G2, S2, u, v, w, e2, hb2, A2, rfl⟩
      refine gx_name (i := 6) rfl rfl ?_
      refine sxs_cons ?_
      refine sx_set (i := 7) rfl rfl ?_
      refine ex_call (ok__law_pick T') (Nat.le_of_ble_eq_true rfl) rfl ?_
      refine ax2 ?_
      refine ex_name (i := 0) rfl rfl rfl ?_
      refine ex_name (i := 5) rfl rfl rfl ?_
      refine ⟨b, G2, S2, _, od, rfl, hb2, .inl rfl, hol.1, hol.2, fun d G3 S3 hd => ?_⟩
      have A3 : LawAt g (mup M2 b (boxO G3 S3)) p s2 ms first dn lf := A2.box hb2
      have e3 : TabEq M (mup M2 b (boxO G3 S3)) := e2.trans (TabEq.box hb2)
      have t3 := hT.eq e3
      refine sxs_one ?_
      refine sx_if ?_
      refine tx_ne ?_
      refine ex_lamfault (k := 12) (cO := cB g) (P := tB g) (TT := TTs g) T ?_ ?_ ?_ TL.b ?_ ?_ (fun a q h => (t3 a q).mp h) (fun z hz => (t3 z.1 z.2).mpr hz) ?_ ?_ ?_
      · exact Nat.le_of_ble_eq_true rfl
      · rfl
      · exact hcd
      · exact m1
      · exact m2
      · rfl
      · kernel_rfl
      · refine ex_meth (ok_Desk_say T) T'.cls_Desk (Nat.le_of_ble_eq_true rfl) ?_
        refine ex_name (i := 1) rfl rfl rfl ?_
        refine ⟨_, _, A3.hp, by decide, ?_⟩
        refine ax1 ?_
        refine ex_name (i := 7) rfl rfl rfl ?_
        refine odd_sp (hodd d hd) A3 (.inl ⟨rfl, rfl, _, rfl, ?_⟩)
        refine ex_int ?_
        refine v_eq_nat (m := 0) (n := 0) ?_
        refine v_bl ?_
        refine cnd_f rfl ?_
        refine sxs_nil ?_
        exact ⟨s2, G3, S3, _, _, _, e3, mup_same, A3, rfl⟩
    · rintro δ2 M2 ⟨s2, G2, S2, u, v, w, e2, hb2, A2, rfl⟩
      refine sxs_one ?_
      refine sx_ret ?_
      refine ex_bl ?_
      exact rt_of (q M2 s2 G2 S2 e2 hb2 A2)
end DL

set_option Elab.async false
set_option linter.all false
set_option maxRecDepth 100000
set_option maxHeartbeats 1000000
/-! # The plain law, part 4: texts of desks -/
namespace DL
open PySem PySem.Spec PyProof.Rows L2
open TL (joinL numL)
theorem spl_nlL (r : List Nat) : ∀ (l acc : List Nat), 10 ∉ l → TL.spl [10] 0 acc (l ++ 10 :: r) = (acc ++ l) :: TL.spl [10] 0 [] r
  | [], acc, _ => by
    rw [List.nil_append, TL.spl_hit (show TL.pre [10] (10 :: r) = true from by simp [TL.pre]), List.append_nil]
    rfl
  | c :: l, acc, h => by
    have hc : c ≠ 10 := fun e => h (by rw [e]; exact List.mem_cons_self)
    have hm : TL.pre [10] (c :: (l ++ 10 :: r)) = false := by
      simp [TL.pre, hc]
    rw [List.cons_append, TL.spl_miss hm, spl_nlL r l (acc ++ [c]) (fun e => h (List.mem_cons_of_mem _ e)), List.append_assoc]
    rfl
theorem lines_cut {z a r : Str} (h : TL.tl z = TL.tl a ++ 10 :: TL.tl r) (ha : 10 ∉ TL.tl a) : linesOf z = a :: linesOf r := by
  refine TL.map_tl_inj ?_
  unfold linesOf
  rw [List.map_cons, TL.split_spl z "\n" (by decide +kernel) (TL.kind_ok (by decide +kernel)), TL.split_spl r "\n" (by decide +kernel) (TL.kind_ok (by decide +kernel)), h, nl_ok, spl_nlL _ _ _ ha, List.nil_append]
theorem lines_one {z : Str} (h : 10 ∉ TL.tl z) : linesOf z = [z] := split_lines (ws := [z]) rfl (by simp) fun w hw => by
  rw [List.mem_singleton.mp hw]
  exact h
/-! ### what a text of lines tells -/
def storeL (L : List Str) : Nat ⊕ (List Nat × List Nat) :=
  if badH (L.getD 0 Str.empty) = true then .inl 1
  else if L.length < 2 ∨ Txt.startswith (L.getD 1 Str.empty) "cells " = false then .inl 2
  else if noneIn (cellsOf (L.getD 1 Str.empty)) = true ∨ 20 < (cellsOf (L.getD 1 Str.empty)).length then .inl 2
  else if 2 < L.length then .inl 3
  else .inr (valsOf (mksOf (L.getD 0 Str.empty)), valsOf (cellsOf (L.getD 1 Str.empty)))
theorem storeOf_L (z : Str) : storeOf z = storeL (linesOf z) := rfl
def rest2 (ls : List Str) : Nat ⊕ List Nat :=
  if Txt.startswith (ls.getD 0 Str.empty) "cells " = false then .inl 2
  else if noneIn (cellsOf (ls.getD 0 Str.empty)) = true ∨ 20 < (cellsOf (ls.getD 0 Str.empty)).length then .inl 2
  else if 1 < ls.length then .inl 3
  else .inr (valsOf (cellsOf (ls.getD 0 Str.empty)))
theorem storeL_good {a l : Str} {ls : List Str} (h : badH a = false) : storeL (a :: l :: ls) = match rest2 (l :: ls) with
  | .inl k => .inl k
  | .inr cs => .inr (valsOf (mksOf a), cs) := by
  have e0 : ((a :: l :: ls) : List Str).getD 0 Str.empty = a := rfl
  have e1 : ((a :: l :: ls) : List Str).getD 1 Str.empty = l := rfl
  have e2 : ((l :: ls) : List Str).getD 0 Str.empty = l := rfl
  have e3 : ((a :: l :: ls) : List Str).length = ls.length + 2 := rfl
  have e4 : ((l :: ls) : List Str).length = ls.length + 1 := rfl
  unfold storeL rest2
  rw [e0, e1, e2, e3, e4, if_neg (by rw [h]; exact Bool.false_ne_true)]
  by_cases h1 : Txt.startswith l "cells " = false
  · rw [if_pos (.inr h1), if_pos h1]
  · rw [if_neg (fun x => x.elim (fun y => by omega) h1), if_neg h1]
    by_cases h2 : noneIn (cellsOf l) = true ∨ 20 < (cellsOf l).length
    · rw [if_pos h2, if_pos h2]
    · rw [if_neg h2, if_neg h2]
      by_cases h3 : 1 < ls.length + 1
      · rw [if_pos h3, if_pos (by omega)]
      · rw [if_neg h3, if_neg (by omega)]
theorem storeL_bad {a : Str} {ls : List Str} (h : badH a = true) : storeL (a :: ls) = .inl 1 := by
  unfold storeL
  rw [show ((a :: ls) : List Str).getD 0 Str.empty = a from rfl, if_pos h]
theorem storeL_one {a : Str} (h : badH a = false) : storeL [a] = .inl 2 := by
  unfold storeL
  rw [if_neg (by show ¬ badH a = true; rw [h]; exact Bool.false_ne_true), if_pos (.inl (show 1 < 2 by decide))]
/-! ### the line of the hands -/
def goodT (ms : List Nat) : Str := "hands " ++ rowT ms
theorem tl_hands : TL.tl ("hands " : Str) = [104, 97, 110, 100, 115, 32] := by decide +kernel
theorem tl_good (ms : List Nat) : TL.tl (goodT ms) = [104, 97, 110, 100, 115, 32] ++ joinL [32] (ms.map numL) := by
  unfold goodT
  rw [TL.tl_append, tl_hands, tl_row]
theorem row_free {l : List Nat} {c : Nat} (h : c ≠ 32) (h2 : c < 48 ∨ 57 < c) : c ∉ joinL [32] (l.map numL) := fun hm => by
  rcases mem_joinL hm with h3 | ⟨p, hp, h3⟩
  · exact h (List.mem_singleton.mp h3)
  · obtain ⟨n, _, rfl⟩ := List.mem_map.mp hp
    exact TL.numL_free h2 h3
theorem good_nl (ms : List Nat) : 10 ∉ TL.tl (goodT ms) := by
  rw [tl_good]
  intro h
  rcases List.mem_append.mp h with h | h
  · exact absurd h (by decide)
  · exact row_free (by decide) (.inl (by decide)) h
theorem good_len (ms : List Nat) : 6 ≤ (goodT ms).length := by
  rw [TL.len_tl, tl_good, List.length_append]
  exact Nat.le_add_right _ _
theorem good_marks {ms : List Nat} (hne : ms ≠ []) (h : ∀ m ∈ ms, m ≤ 60) : mksOf (goodT ms) = ms.map some := by
  have e : cutS (goodT ms) (some 6) none = rowT ms := by
    refine TL.ext_tl ?_
    rw [show (6 : Int) = ((6 : Nat) : Int) from rfl, tl_cut (good_len ms), tl_good, tl_row]
    rfl
  unfold mksOf
  rw [e, split_words (x := rowT ms) (ws := ms.map strN) (by rw [tl_row, map_numL]) (by simpa using hne) fun w hw => by
    obtain ⟨n, _, rfl⟩ := List.mem_map.mp hw
    exact strN_free (.inl (by decide)), List.map_map]
  exact List.map_congr_left fun n hn => readN_strN (Nat.zero_le _) (by have := h n hn; omega)
theorem good_head (ms : List Nat) : cutS (goodT ms) none (some 6) = "hands " := by
  refine TL.ext_tl ?_
  rw [show (6 : Int) = ((6 : Nat) : Int) from rfl, tl_cut2 (good_len ms), tl_good, tl_hands]
  rfl
theorem zeroIn_some {l : List Nat} : zeroIn (l.map some) = decide (0 ∈ l) := by
  unfold zeroIn
  rw [List.any_map]
  induction l with
  | nil => rfl
  | cons a l ih =>
    rw [List.any_cons, ih]
    show ((some a == some 0) || decide (0 ∈ l)) = decide (0 ∈ a :: l)
    by_cases h : a = 0
    · subst h
      simp
    · simp [h, Ne.symm h]
theorem good_ok {ms : List Nat} (h1 : 2 ≤ ms.length) (h2 : ms.length ≤ 8) (h3 : ∀ m ∈ ms, 1 ≤ m ∧ m ≤ 60) : badH (goodT ms) = false ∧ valsOf (mksOf (goodT ms)) = ms := by
  have hne : ms ≠ [] := fun e => by
    rw [e] at h1
    exact absurd h1 (by decide)
  have e := good_marks hne fun m hm => (h3 m hm).2
  refine ⟨?_, by rw [e, vals_some]⟩
  unfold badH
  rw [e, good_head, noneIn_some, zeroIn_some, List.length_map, decide_eq_true h1, decide_eq_true h2, decide_eq_false (fun h => absurd (h3 0 h).1 (by decide)), decide_eq_true rfl]
  rfl
theorem good_zero {ms : List Nat} (h : ∀ m ∈ ms, m ≤ 60) (hz : 0 ∈ ms) : badH (goodT ms) = true := by
  have hne : ms ≠ [] := fun e => by
    rw [e] at hz
    cases hz
  have e := good_marks hne h
  unfold badH
  rw [e, zeroIn_some, decide_eq_true hz]
  simp
theorem joinL_snoc {S : List Nat} {p : List Nat} : ∀ {ps : List (List Nat)}, ps ≠ [] → joinL S (ps ++ [p]) = joinL S ps ++ (S ++ p)
  | [], h => absurd rfl h
  | [q], _ => rfl
  | q :: r :: ps, _ => by
    rw [List.cons_append, joinL_cons (by simp), joinL_snoc (by simp), joinL_cons (ps := r :: ps) (by simp), List.append_assoc, List.append_assoc]
end DL

set_option Elab.async false
set_option linter.all false
set_option maxRecDepth 100000
set_option maxHeartbeats 1000000
/-! # Texts that tell no store -/
namespace DL
open PySem PySem.Spec PyProof.Rows L2
open Evl (Ex)
open TL (joinL numL)
theorem rowT_len {l : List Nat} (h : ∀ n ∈ l, n < 1000000000) : (rowT l).length ≤ l.length * 10 := by
  rw [TL.len_tl, tl_row]
  refine Nat.le_trans (len_joinL (n := 9) fun p hp => ?_) (by rw [List.length_map]; exact Nat.le_refl _)
  obtain ⟨n, hn, rfl⟩ := List.mem_map.mp hp
  exact TL.numL_len (by decide) (h n hn)
theorem good_size {ms : List Nat} (gm : GoodMs ms) : (goodT ms).length ≤ 100 := by
  unfold goodT
  have h1 := rowT_len (l := ms) fun n hn => by have := gm.mo.each n hn; omega
  have h2 := gm.ln
  rw [str_len_app, hands_len]
  omega
/-- a text whose first wrong line is k -/
structure TextK (z : Str) (k : Nat) : Prop where
  len : z.length ≤ 10000
  mo : badH ((linesOf z).getD 0 Str.empty) = false → MsOk (valsOf (mksOf ((linesOf z).getD 0 Str.empty)))
  at_ : storeOf z = .inl k
theorem lines_len {z : Str} (h : z.length ≤ 10000) : ∀ l ∈ linesOf z, l.length ≤ 10000 := fun l hl => Nat.le_trans (split_part (by rw [nl_ok]; decide) (by decide +kernel) hl) h
theorem lines_cons (r : Str) : ∃ l ls, linesOf r = l :: ls := by
  have h := (split_nl r).1
  cases e : linesOf r with
  | nil =>
    unfold linesOf at e
    rw [e] at h
    exact absurd h (by decide)
  | cons l ls => exact ⟨l, ls, rfl⟩
section
variable {ms : List Nat}
theorem good_both (gm : GoodMs ms) : badH (goodT ms) = false ∧ valsOf (mksOf (goodT ms)) = ms := good_ok gm.mo.lo gm.mo.hi gm.mo.each
theorem text_nl (gm : GoodMs ms) {s r : Str} {k : Nat} (hs : TL.tl s = 10 :: TL.tl r) (hl : s.length ≤ 1000) (hk : rest2 (linesOf r) = .inl k) : TextK (goodT ms ++ s) k := by
  have e : linesOf (goodT ms ++ s) = goodT ms :: linesOf r := lines_cut (by rw [TL.tl_append, hs]) (good_nl ms)
  obtain ⟨b1, b2⟩ := good_both gm
  have h1 := good_size gm
  refine ⟨by rw [str_len_app]; omega, fun _ => ?_, ?_⟩
  · rw [e]
    show MsOk (valsOf (mksOf (goodT ms)))
    rw [b2]
    exact gm.mo
  · obtain ⟨l, ls, e2⟩ := lines_cons r
    rw [storeOf_L, e, e2, storeL_good b1]
    rw [e2] at hk
    rw [hk]
theorem text_good (gm : GoodMs ms) : TextK (goodT ms) 2 := by
  have e : linesOf (goodT ms) = [goodT ms] := lines_one (good_nl ms)
  obtain ⟨b1, b2⟩ := good_both gm
  have h1 := good_size gm
  refine ⟨by omega, fun _ => ?_, ?_⟩
  · rw [e]
    show MsOk (valsOf (mksOf (goodT ms)))
    rw [b2]
    exact gm.mo
  · rw [storeOf_L, e, storeL_one b1]
theorem text_zero (gm : GoodMs ms) : TextK (goodT ms ++ " 0\ncells 1") 1 := by
  have hne : ms ≠ [] := fun e => by
    have := gm.mo.lo
    rw [e] at this
    exact absurd this (by decide)
  have hz : TL.tl (goodT (ms ++ [0])) = TL.tl (goodT ms) ++ [32, 48] := by
    rw [tl_good, tl_good, List.map_append, List.map_cons, List.map_nil, joinL_snoc (by simpa using hne), List.append_assoc]
    rw [show numL 0 = [48] from by decide +kernel]
    rfl
  have e : linesOf (goodT ms ++ " 0\ncells 1") = goodT (ms ++ [0]) :: linesOf "cells 1" := lines_cut (by rw [TL.tl_append, hz, show TL.tl (" 0\ncells 1" : Str) = [32, 48] ++ 10 :: TL.tl ("cells 1" : Str) from by decide +kernel, List.append_assoc]) (good_nl _)
  have b : badH (goodT (ms ++ [0])) = true := good_zero (fun m hm => by
    rcases List.mem_append.mp hm with h | h
    · exact (gm.mo.each m h).2
    · rw [List.mem_singleton.mp h]
      exact Nat.zero_le _) (by simp)
  have h1 := good_size gm
  have h2 : (" 0\ncells 1" : Str).length = 10 := by decide +kernel
  refine ⟨by rw [str_len_app]; omega, fun h => ?_, ?_⟩
  · rw [e] at h
    exact absurd (b.symm.trans h) (by decide)
  · rw [storeOf_L, e, storeL_bad b]
theorem text_back (gm : GoodMs ms) : TextK ("cells 1\n" ++ goodT ms) 1 := by
  have e : linesOf ("cells 1\n" ++ goodT ms) = ("cells 1" : Str) :: linesOf (goodT ms) := lines_cut (by rw [TL.tl_append, show TL.tl ("cells 1\n" : Str) = TL.tl ("cells 1" : Str) ++ [10] from by decide +kernel, List.append_assoc]; rfl) (by decide +kernel)
  have b : badH "cells 1" = true := by decide +kernel
  have h1 := good_size gm
  have h2 : ("cells 1\n" : Str).length = 8 := by decide +kernel
  refine ⟨by rw [str_len_app]; omega, fun h => ?_, ?_⟩
  · rw [e] at h
    exact absurd (b.symm.trans h) (by decide)
  · rw [storeOf_L, e, storeL_bad b]
end
theorem ms222 : MsOk [2, 2, 2] := ⟨by decide, by decide, by decide, by decide⟩
theorem not222 : ¬ TellOk [2, 2, 2] := by
  unfold TellOk
  decide +kernel
theorem text_222 {z : Str} {k : Nat} (hl : z.length ≤ 1000) (h : valsOf (mksOf ((linesOf z).getD 0 Str.empty)) = [2, 2, 2]) (hk : storeOf z = .inl k) : TextK z k := ⟨by omega, fun _ => by rw [h]; exact ms222, hk⟩
theorem text_bad {z : Str} {k : Nat} (hl : z.length ≤ 1000) (h : badH ((linesOf z).getD 0 Str.empty) = true) (hk : storeOf z = .inl k) : TextK z k := ⟨by omega, fun h2 => absurd (h.symm.trans h2) (by decide), hk⟩
/-- a thing that tells no store, and what is due -/
inductive TextD (g : Gb) : D → D → Prop
  | non : TextD g .non (natD 0)
  | int {i : Int} : TextD g (.int i) (natD 0)
  | str {z : Str} {k : Nat} (h : TextK z k) (hk : k < 100) : TextD g (.str z) (natD k)
  | tell : TextD g (.str "hands 2 2 2\ncells 1") (.tup [natD 3, natD 2])
section
variable {g : Gb} {p : Addr} {M : Mem} {Q : D → Mem → Prop} {E : Addr → List Str → List D → Mem → Prop}
theorem text_sp {t d : D} (h : TextD g t d) (hM : M p = some (.ins (ga g "Desk") [] [])) (q1 : ∀ k, d = natD k → badText g k E M) (q2 : d = .tup [natD 3, natD 2] → E (ga g "NoTelling") ["top", "bottom"] [natD 3, natD 2] M) : sp_Desk g [.ref p, t] M Q E := by
  cases h with
  | non => exact ⟨p, _, rfl, hM, .inl ⟨"NoneType", rfl, rfl, q1 0 rfl⟩⟩
  | int => exact ⟨p, _, rfl, hM, .inl ⟨"int", rfl, rfl, q1 0 rfl⟩⟩
  | @str z k h hk => exact ⟨p, _, rfl, hM, .inr ⟨z, rfl, h.len, lines_len h.len, h.mo, .inl ⟨k, h.at_, q1 k rfl⟩⟩⟩
  | tell =>
    have hl : ("hands 2 2 2\ncells 1" : Str).length ≤ 10000 := by decide +kernel
    have e : valsOf (mksOf ((linesOf "hands 2 2 2\ncells 1").getD 0 Str.empty)) = [2, 2, 2] := by decide +kernel
    refine ⟨p, _, rfl, hM, .inr ⟨_, rfl, hl, lines_len hl, fun _ => by rw [e]; exact ms222, .inr ⟨[2, 2, 2], [1], by decide +kernel, ⟨by decide, by decide, by decide⟩, fun h => absurd h not222, fun _ => q2 rfl⟩⟩⟩
end
/-! ### the rows -/
def rowsX (z : Str) : List (D × D) :=
  [(.non, natD 0), (.int 7, natD 0), (.str "", natD 1), (.str z, natD 2), (.str (z ++ "\n"), natD 2), (.str (z ++ "\ncells"), natD 2), (.str (z ++ "\ncells "), natD 2), (.str (z ++ "\ncells 01"), natD 2)] ++
  [(.str (z ++ "\ncells 1  2"), natD 2), (.str (z ++ "\ncells 1000000000"), natD 2), (.str (z ++ "\ncells " ++ rowT (List.replicate 21 0)), natD 2), (.str (z ++ "\ncells 1\n"), natD 3)] ++
  [(.str (z ++ " 0\ncells 1"), natD 1), (.str "hands 2\ncells", natD 1), (.str ("cells 1\n" ++ z), natD 1), (.str "hands 2 61\ncells 1", natD 1), (.str (z ++ "\ncells 1\ncells 1"), natD 3)] ++
  [(.str "hands 2 2 2\ncells 1", .tup [natD 3, natD 2]), (.str "hands 2 2 2\ncells -", natD 2), (.str "hands 2 2 2\ncells 1\n-", natD 3), (.str (z ++ "\nCells 1"), natD 2), (.str (z ++ "\ncells 1,2"), natD 2)]
theorem rowsX_ok {g : Gb} {ms : List Nat} (gm : GoodMs ms) : ∀ x ∈ rowsX (goodT ms), TextD g x.1 x.2 := by
  intro x hx
  unfold rowsX at hx
  simp only [List.cons_append, List.nil_append, List.mem_cons, List.not_mem_nil, or_false] at hx
  rcases hx with rfl | rfl | rfl | rfl | rfl | rfl | rfl | rfl | rfl | rfl | rfl | rfl | rfl | rfl | rfl | rfl | rfl | rfl | rfl | rfl | rfl | rfl
  · exact .non
  · exact .int
  · exact .str (text_bad (by decide +kernel) (by decide +kernel) (by decide +kernel)) (by decide)
  · exact .str (text_good gm) (by decide)
  · exact .str (text_nl gm (r := "") (by decide +kernel) (by decide +kernel) (by decide +kernel)) (by decide)
  · exact .str (text_nl gm (r := "cells") (by decide +kernel) (by decide +kernel) (by decide +kernel)) (by decide)
  · exact .str (text_nl gm (r := "cells ") (by decide +kernel) (by decide +kernel) (by decide +kernel)) (by decide)
  · exact .str (text_nl gm (r := "cells 01") (by decide +kernel) (by decide +kernel) (by decide +kernel)) (by decide)
  · exact .str (text_nl gm (r := "cells 1  2") (by decide +kernel) (by decide +kernel) (by decide +kernel)) (by decide)
  · exact .str (text_nl gm (r := "cells 1000000000") (by decide +kernel) (by decide +kernel) (by decide +kernel)) (by decide)
  · refine .str ?_ (by decide)
    rw [show goodT ms ++ ("\ncells " : Str) ++ rowT (List.replicate 21 0) = goodT ms ++ ("\ncells " ++ rowT (List.replicate 21 0)) from TL.ext_tl (by simp only [TL.tl_append, List.append_assoc])]
    exact text_nl gm (r := "cells " ++ rowT (List.replicate 21 0)) (by decide +kernel) (by decide +kernel) (by decide +kernel)
  · exact .str (text_nl gm (r := "cells 1\n") (by decide +kernel) (by decide +kernel) (by decide +kernel)) (by decide)
  · exact .str (text_zero gm) (by decide)
  · exact .str (text_bad (by decide +kernel) (by decide +kernel) (by decide +kernel)) (by decide)
  · exact .str (text_back gm) (by decide)
  · exact .str (text_bad (by decide +kernel) (by decide +kernel) (by decide +kernel)) (by decide)
  · exact .str (text_nl gm (r := "cells 1\ncells 1") (by decide +kernel) (by decide +kernel) (by decide +kernel)) (by decide)
  · exact .tell
  · exact .str (text_222 (by decide +kernel) (by decide +kernel) (by decide +kernel)) (by decide)
  · exact .str (text_222 (by decide +kernel) (by decide +kernel) (by decide +kernel)) (by decide)
  · exact .str (text_nl gm (r := "Cells 1") (by decide +kernel) (by decide +kernel) (by decide +kernel)) (by decide)
  · exact .str (text_nl gm (r := "cells 1,2") (by decide +kernel) (by decide +kernel) (by decide +kernel)) (by decide)
end DL

set_option Elab.async false
set_option linter.all false
set_option maxRecDepth 100000
set_option maxHeartbeats 1000000
/-! # texts right -/
namespace DL
open PySem PySem.Spec PyProof.Rows L2
open Evl (Ex)
open LamX (TabB lamSB)
local macro_rules | `(tactic| walk_at "sw") => `(tactic| (intro env h; obtain ⟨sc, _, _, _, _, _, _, _, _⟩ := env; (have h : sc = _ := h); subst h; rfl))
variable {g : Gb}
/-! ### texts made of a name's text and constants -/
def gB (x : Str) (z : Str) : Expr → Option D
  | .BinOp (.Name y _) .Add (.Constant (.str u) _ _) _ => if y = x ∧ u.length ≤ 1000 then some (.str (z ++ u)) else none
  | .BinOp (.Constant (.str u) _ _) .Add (.Name y _) _ => if y = x ∧ u.length ≤ 1000 then some (.str (u ++ z)) else none
  | .Name y _ => if y = x then some (.str z) else none
  | e => kstD e
def gC (x z : Str) : Expr → Option D
  | .Tuple [a, b] _ _ => match gB x z a, rowD b with
    | some d, some d' => some (.tup [d, d'])
    | _, _ => none
  | _ => none
def gCs (x z : Str) : List Expr → Option (List D)
  | [] => some []
  | e :: r => match gC x z e, gCs x z r with
    | some d, some ds => some (d :: ds)
    | _, _ => none
def shortC : Expr → Bool
  | .Tuple [_, b] _ _ => shortB [b]
  | _ => false
section
variable {c : Cz} {δ : Sl} {M : Mem} {x z : Str} {i : Nat}
/-- the name's text lies in a slot -/
structure HasT (c : Cz) (δ : Sl) (x z : Str) (i : Nat) : Prop where
  at_ : c.N[i]? = some x
  vis : visB c.sc x = true
  val : δ[i]? = some (some (.str z))
  len : z.length ≤ 1000
  h1 : (x == ("__debug__" : Str)) = false
  h2 : (x == ("__classdict__" : Str)) = false
theorem ex_gB {e : Expr} {d : D} {Q : D → Mem → Prop} (H : HasT c δ x z i) (h : gB x z e = some d) (q : Q d M) : EX g c e δ M Q := by
  have hz := sizeLine_eq
  have hl := H.len
  unfold gB at h
  split at h
  · split at h
    · rename_i hc
      obtain ⟨rfl, hu⟩ := hc
      cases h
      exact ex_add (ex_name (i := i) H.at_ H.vis H.val (ex_str (v_add_str (by omega) q)) H.h1 H.h2)
    · cases h
  · split at h
    · rename_i hc
      obtain ⟨rfl, hu⟩ := hc
      cases h
      exact ex_add (ex_str (ex_name (i := i) H.at_ H.vis H.val (v_add_str (by omega) q) H.h1 H.h2))
    · cases h
  · split at h
    · rename_i hc
      subst hc
      cases h
      exact ex_name (i := i) H.at_ H.vis H.val q H.h1 H.h2
    · cases h
  · exact ex_kst h q
theorem gB_plain {e : Expr} {es : List Expr} {d : D} (h : gB x z e = some d) (env : Env) : starEach (e :: es) env = (false, eval e env) :: starEach es env := by
  unfold gB at h
  split at h
  · rfl
  · rfl
  · rfl
  · exact kst_plain h env
theorem ex_gC {e : Expr} {d : D} {Q : D → Mem → Prop} (H : HasT c δ x z i) (h : gC x z e = some d) (hs : shortC e = true) (q : Q d M) : EX g c e δ M Q := by
  have hz := sizeLine_eq
  unfold gC at h
  split at h
  · rename_i a b k p
    split at h
    · rename_i d1 d2 h1 h2
      cases h
      exact ex_tup (ax_cons (ex_gB H h1 (ax_cons (ex_row h2 (shortB_ok hs b List.mem_cons_self) (ax_nil ⟨by show 2 ≤ sizeLine; omega, q⟩)) fun env => row_plain h2 env)) fun env => gB_plain h1 env)
    · cases h
  · cases h
theorem gC_plain {e : Expr} {es : List Expr} {d : D} (h : gC x z e = some d) (env : Env) : starEach (e :: es) env = (false, eval e env) :: starEach es env := by
  unfold gC at h
  split at h
  · rfl
  · cases h
theorem ax_gC (H : HasT c δ x z i) : ∀ {es : List Expr} {ds : List D} {QA : List D → Mem → Prop}, gCs x z es = some ds → es.all shortC = true → QA ds M → AX g c es δ M QA
  | [], ds, QA, h, _, q => by
    cases h
    exact ax_nil q
  | e :: r, ds, QA, h, hs, q => by
    obtain ⟨s1, s2⟩ := Bool.and_eq_true_iff.mp (show (shortC e && r.all shortC) = true from hs)
    unfold gCs at h
    split at h
    · rename_i d ds' h1 h2
      cases h
      exact ax_cons (ex_gC H h1 s1 (ax_gC H (QA := fun ds M2 => QA (d :: ds) M2) h2 s2 q)) fun env => gC_plain h1 env
    · cases h
end
theorem textD_small {t d : D} {k : Nat} (h : TextD g t d) (e : d = natD k) : k < 100 := by
  have inj : ∀ {a b : Nat}, natD a = natD b → a = b := fun {a b} z => by
    have z : D.int (a : Int) = D.int (b : Int) := z
    injection z with z
    exact Int.ofNat.inj z
  cases h with
  | non => rw [← inj e]; decide
  | int => rw [← inj e]; decide
  | str h hk => rw [← inj e]; exact hk
  | tell => cases e
def pr2 (x : D × D) : D := .tup [x.1, x.2]
def sp__law_texts_right (g : Gb) : DSp := fun ds M Q _ => ∃ b, ∃ G S : Nat, ∃ ms, ds = [.ref b, .lst (natsD ms)] ∧ M b = some (boxO G S) ∧ GoodMs ms ∧ TabsM g M ∧
  ∀ M', ∀ G' S' : Nat, TabEq M M' → M' b = some (boxO G' S') → (∀ a m, a ≠ b → M a = some m → M' a = some m) → Q (.bl true) M'
theorem ok__law_texts_right (TL : Tl g) : KnG g "_law_texts_right" 15 ["_law_box_here", "_law_marks_here"] (sp__law_texts_right g) := by
  have T := TL.t
  have T' := T.b
  obtain ⟨fd, F⟩ := T'.fun_ 72 (x := "_law_texts_right") (m := none) (n := "_law_texts_right") (q := "_law_texts_right") (st := topS 91) rfl
  refine ⟨_, fd, fn_defG (pd := pX) (N := ["_law_box_here", "_law_marks_here", "_law_good", "_law_rows_here", "_law_turn", "_law_text", "_law_due"]) F ⟨rfl, rfl, rfl, by decide +kernel, rfl, by decide +kernel, by decide +kernel⟩ (by rintro _ _ _ _ ⟨_, _, _, _, rfl, _⟩; rfl) ?_, He.glo_ok T'.X T'.G (T'.c.fact 59 (f := .glo "_law_texts_right") rfl), F.kp, F.binds fun _ _ _ _ _ _ us hl => match us, hl with | [_, _], _ => rfl⟩
  rintro _ M Qd Ed cd hcd ⟨b, G, S, ms, rfl, hM, gm, hT, q⟩
  have hz2 := sizeLine_eq
  have h10 : (10 : Nat) ^ 10 = 10000000000 := by decide
  have h8 := gm.mo.hi
  have gs := good_size gm
  have sm : Small ms := fun n hn => by have := gm.mo.each n hn; omega
  have hrl : (rowT ms).length ≤ 100 := by
    have h1 : (goodT ms).length = ("hands " : Str).length + (rowT ms).length := str_len_app ..
    omega
  have hh : ("hands " : Str).length = 6 := hands_len
  refine sxs_cons ?_
  refine sx_set (i := 2) rfl rfl ?_
  refine ex_add ?_
  refine ex_str ?_
  refine ex_call (ok__law_row T') (Nat.le_of_ble_eq_true rfl) rfl ?_
  refine ax1 ?_
  refine ex_name (i := 1) rfl rfl rfl ?_
  refine ⟨_, ms, rfl, .inl rfl, by omega, sm, ?_⟩
  refine v_add_str (by omega) ?_
  rw [show ("hands " ++ rowT ms : Str) = goodT ms from rfl]
  have hrows := rowsX_ok (g := g) gm
  have h0 : ∀ {u v w x : Option D}, HasT (bodyG ["_law_box_here", "_law_marks_here", "_law_good", "_law_rows_here", "_law_turn", "_law_text", "_law_due"] (defScope (topS 91)) 14 Ed "_law_texts_right" cd) [some (.ref b), some (.lst (natsD ms)), some (.str (goodT ms)), u, v, w, x] "_law_good" (goodT ms) 2 := fun {u v w x} => ⟨rfl, rfl, rfl, by omega, by decide, by decide⟩
  generalize hz : goodT ms = z at h0 hrows gs
  refine sxs_cons ?_
  with_reducible refine sx_set (i := 3) (hs := fun _ => sw_list) ?_ ?_ ?_
  · rfl
  · rfl
  refine ex_lst ?_
  refine ax_gC (ds := ((rowsX z).take 8).map pr2) h0 ?_ ?_ ?_
  · kernel_rfl
  · kernel_rfl
  refine ⟨by show 8 ≤ sizeLine; decide, ?_⟩
  refine sxs_cons ?_
  with_reducible refine sx_set (i := 3) (hs := fun _ => sw_op) ?_ ?_ ?_
  · rfl
  · rfl
  refine ex_add ?_
  refine ex_name (i := 3) rfl rfl rfl ?_
  refine ex_lst ?_
  refine ax_cons (ex_gC (d := pr2 (.str (z ++ "\ncells 1  2"), natD 2)) h0 ?_ ?_ ?_) fun _ => rfl
  · kernel_rfl
  · kernel_rfl
  refine ax_cons (ex_gC (d := pr2 (.str (z ++ "\ncells 1000000000"), natD 2)) h0 ?_ ?_ ?_) fun _ => rfl
  · kernel_rfl
  · kernel_rfl
  refine ax_cons ?_
  refine ex_tup ?_
  refine ax2 ?_
  refine ex_add ?_
  refine ex_add ?_
  refine ex_name (i := 2) rfl rfl rfl ?_
  refine ex_str ?_
  have hc7 : ("\ncells " : Str).length = 7 := by decide +kernel
  refine v_add_str (by omega) ?_
  refine ex_call (ok__law_row T') (Nat.le_of_ble_eq_true rfl) rfl ?_
  refine ax1 ?_
  refine ex_mul ?_
  refine ex_lst ?_
  refine ax1 ?_
  refine ex_int ?_
  refine ⟨by show 1 ≤ sizeLine; decide, ?_⟩
  refine ex_int ?_
  refine ⟨[natD 0], rfl, by decide, by decide, by decide, ?_⟩
  have e21 : (List.replicate ((21 : Int)).toNat [natD 0]).flatten = natsD (List.replicate 21 0) := rfl
  rw [e21]
  refine ⟨_, List.replicate 21 0, rfl, .inl rfl, by decide, (fun n hn => by rw [List.eq_of_mem_replicate hn]; decide), ?_⟩
  have hr21 : (rowT (List.replicate 21 0)).length ≤ 210 := rowT_len fun n hn => by rw [List.eq_of_mem_replicate hn]; decide
  refine v_add_str (by rw [str_len_app]; omega) ?_
  refine ex_int ?_
  refine ⟨by show 2 ≤ sizeLine; decide, ?_⟩
  refine ax_cons (ex_gC (d := pr2 (.str (z ++ "\ncells 1\n"), natD 3)) h0 ?_ ?_ ?_) fun _ => rfl
  · kernel_rfl
  · kernel_rfl
  refine ax_nil ?_
  refine ⟨by show 4 ≤ sizeLine; decide, ?_⟩
  refine v_add_lst (by show 8 + 4 ≤ sizeLine; decide) ?_
  refine sxs_cons ?_
  with_reducible refine sx_set (i := 3) (hs := fun _ => sw_op) ?_ ?_ ?_
  · rfl
  · rfl
  refine ex_add ?_
  refine ex_name (i := 3) rfl rfl rfl ?_
  refine ex_lst ?_
  refine ax_gC (ds := (((rowsX z).drop 12).take 5).map pr2) h0 ?_ ?_ ?_
  · kernel_rfl
  · kernel_rfl
  refine ⟨by show 5 ≤ sizeLine; decide, ?_⟩
  refine v_add_lst (by show 12 + 5 ≤ sizeLine; decide) ?_
  refine sxs_cons ?_
  with_reducible refine sx_set (i := 3) (hs := fun _ => sw_op) ?_ ?_ ?_
  · rfl
  · rfl
  refine ex_add ?_
  refine ex_name (i := 3) rfl rfl rfl ?_
  refine ex_lst ?_
  refine ax_gC (ds := ((rowsX z).drop 17).map pr2) h0 ?_ ?_ ?_
  · kernel_rfl
  · kernel_rfl
  refine ⟨by show 5 ≤ sizeLine; decide, ?_⟩
  refine v_add_lst (by show 17 + 5 ≤ sizeLine; decide) ?_
  show SXs g _ _ [some (.ref b), some (.lst (natsD ms)), some (.str z), some (.lst ((rowsX z).map pr2)), none, none, none] M _
  have hrl2 : (rowsX z).length = 22 := rfl
  generalize rowsX z = rs at hrows hrl2
  have m1 : (tX g, (("_law_texts_right" : Str) ++ ".<locals>.") ++ "<lambda>") ∈ TTs g := List.mem_cons_of_mem _ List.mem_cons_self
  have m2 : ∀ p ∈ TTs g, p.1 = tX g → p.2 = (("_law_texts_right" : Str) ++ ".<locals>.") ++ "<lambda>" := fun z hz h1 => by
    rcases List.mem_cons.mp hz with rfl | hz
    · exact absurd h1 TL.ne
    · rw [List.mem_singleton] at hz
      subst hz
      rfl
  refine sxs_cons ?_
  refine sx_for ?_
  refine ix_rng1 rfl T'.f_range ?_
  refine ex_int ?_
  refine ⟨_, rfl, by decide, by decide, ?_⟩
  rw [rngD_zero]
  refine for_walk (xs := List.range 6) (fun r δ2 M2 => ∃ G2 S2 u v w, TabEq M M2 ∧ M2 b = some (boxO G2 S2) ∧ (∀ a m, a ≠ b → M a = some m → M2 a = some m) ∧ δ2 = [some (.ref b), some (.lst (natsD ms)), some (.str z), some (.lst (rs.map pr2)), u, v, w]) ⟨G, S, _, _, _, TabEq.refl M, hM, fun a m _ h => h, rfl⟩ (fun _ _ _ _ => trivial) ?_ ?_
  · rintro _ r δ2 M2 ⟨G2, S2, u, v, w, e2, hb2, k2, rfl⟩
    refine gx_name (i := 4) rfl rfl ?_
    refine sxs_cons ?_
    refine sx_asg (hw := by walk_at "sw") ?_
    refine ex_call (ok__law_pick T') (Nat.le_of_ble_eq_true rfl) rfl ?_
    refine ax2 ?_
    refine ex_name (i := 0) rfl rfl rfl ?_
    refine ex_name (i := 3) rfl rfl rfl ?_
    refine ⟨b, G2, S2, _, rs.map pr2, rfl, hb2, .inl rfl, by rw [List.length_map]; omega, by rw [List.length_map]; omega, fun d G3 S3 hd => ?_⟩
    obtain ⟨⟨t, du⟩, hx, rfl⟩ := List.mem_map.mp hd
    have hX := hrows _ hx
    have e3 : TabEq M (mup M2 b (boxO G3 S3)) := e2.trans (TabEq.box hb2)
    have t3 := hT.eq e3
    refine gx_tup (n := 2) ⟨_, rfl, rfl, ?_⟩
    refine gxs_cons ?_
    refine gx_name (i := 5) rfl rfl ?_
    refine gxs_cons ?_
    refine gx_name (i := 6) rfl rfl ?_
    refine gxs_nil ?_
    refine sxs_one ?_
    refine sx_if ?_
    refine tx_ne ?_
    refine ex_repr rfl T'.f_repr ?_
    refine ex_lamfault (k := 12) (cO := cX g) (P := tX g) (TT := TTs g) T ?_ ?_ ?_ TL.x ?_ ?_ (fun a q h => (t3 a q).mp h) (fun z hz => (t3 z.1 z.2).mpr hz) ?_ ?_ ?_
    · exact Nat.le_of_ble_eq_true rfl
    · rfl
    · exact hcd
    · exact m1
    · exact m2
    · rfl
    · kernel_rfl
    · refine ex_make (ok_Desk T') (Nat.le_of_ble_eq_true rfl) rfl ?_
      refine ax1 ?_
      refine ex_name (i := 5) rfl rfl rfl ?_
      intro p hp
      obtain ⟨hpb, hp2⟩ := none_mup hp
      have fin : ∀ (G4 S4 : Nat), TabEq M (mup (mup M2 b (boxO G4 S4)) p (.ins (ga g "Desk") [] [])) ∧ (mup (mup M2 b (boxO G4 S4)) p (.ins (ga g "Desk") [] [])) b = some (boxO G4 S4) ∧ ∀ a m, a ≠ b → M a = some m → (mup (mup M2 b (boxO G4 S4)) p (.ins (ga g "Desk") [] [])) a = some m := fun G4 S4 => by
        refine ⟨e2.trans ((TabEq.box hb2).trans (TabEq.up (fun q => by rw [mup_ne hpb, hp2]; intro z; cases z) (fun q z => by cases z))), by rw [mup_ne (Ne.symm hpb)]; exact mup_same, fun a m ha hm => ?_⟩
        have h2 := k2 a m ha hm
        rw [mup_ne (ne_none h2 hp2), mup_ne ha]
        exact h2
      obtain ⟨f1, f2, f3⟩ := fin G3 S3
      refine text_sp hX mup_same (fun k hk => .inl ⟨rfl, rfl, _, rfl, ?_⟩) fun hk => .inr ⟨rfl, rfl, _, _, rfl, ?_⟩
      · obtain rfl : du = natD k := hk
        have hk100 := textD_small hX rfl
        refine ⟨strN_log (n := k) (by omega), ?_⟩
        refine ex_repr rfl T'.f_repr ?_
        refine ex_name (i := 6) rfl rfl rfl ?_
        refine ⟨strN_log (n := k) (by omega), ?_⟩
        refine v_eq_str ?_
        refine v_bl ?_
        refine cnd_f (by rw [decide_eq_true rfl]; rfl) ?_
        refine sxs_nil ?_
        exact ⟨G3, S3, _, _, _, f1, f2, f3, rfl⟩
      · obtain rfl : du = .tup [natD 3, natD 2] := hk
        refine ⟨rfl, [.int 3, .int 2], rfl, by decide, by decide, by decide, by decide +kernel, ?_⟩
        refine ex_repr rfl T'.f_repr ?_
        refine ex_name (i := 6) rfl rfl rfl ?_
        refine ⟨rfl, [.int 3, .int 2], rfl, by decide, by decide, by decide, by decide +kernel, ?_⟩
        refine v_eq_str ?_
        refine v_bl ?_
        refine cnd_f (by rw [decide_eq_true rfl]; rfl) ?_
        refine sxs_nil ?_
        exact ⟨G3, S3, _, _, _, f1, f2, f3, rfl⟩
  · rintro δ2 M2 ⟨G2, S2, u, v, w, e2, hb2, k2, rfl⟩
    refine sxs_one ?_
    refine sx_ret ?_
    refine ex_bl ?_
    exact rt_of (q M2 G2 S2 e2 hb2 k2)
end DL

set_option Elab.async false
set_option linter.all false
set_option maxRecDepth 100000
set_option maxHeartbeats 1000000
/-! # The sheet, shown -/
namespace DL
open PySem PySem.Spec PyProof.Rows L2
open TL (joinL)
structure ShP (p : PyData) (d L : Nat) : Prop where
  sh : p.showable = true
  nd : p.hasDict = false
  dp : p.depth ≤ d
  ln : p.shown.length ≤ L
theorem shp_int {n : Nat} (h : n < 10 ^ 10) : ShP (.int (n : Int)) 0 10 :=
  ⟨by show decide _ = true; exact decide_eq_true (strN_log h), rfl, Nat.le_refl _, strN_len (by decide) h⟩
theorem shp_all {d L : Nat} : ∀ {ps : List PyData}, (∀ p ∈ ps, ShP p d L) → PyData.showableAll ps = true ∧ PyData.hasDictAll ps = false ∧ PyData.depthAll ps ≤ d ∧ ∀ t ∈ PyData.shownAll ps, t.length ≤ L
  | [], _ => ⟨by simp [PyData.showableAll], by simp [PyData.hasDictAll], by simp [PyData.depthAll], fun t h => by simp [PyData.shownAll] at h⟩
  | p :: ps, h => by
    obtain ⟨a, b, c, e⟩ := shp_all (fun q hq => h q (List.mem_cons_of_mem _ hq))
    have hp := h p List.mem_cons_self
    refine ⟨by simp [PyData.showableAll, hp.sh, a], by simp [PyData.hasDictAll, hp.nd, b], ?_, fun t ht => ?_⟩
    · simp only [PyData.depthAll]
      have := hp.dp
      omega
    · simp only [PyData.shownAll, List.mem_cons] at ht
      rcases ht with rfl | ht
      · exact hp.ln
      · exact e t ht
theorem shownAll_len : ∀ ps : List PyData, (PyData.shownAll ps).length = ps.length
  | [] => by simp [PyData.shownAll]
  | p :: ps => by simp [PyData.shownAll, shownAll_len ps]
theorem shp_tuple {ps : List PyData} {d L N : Nat} (h : ∀ p ∈ ps, ShP p d L) (hn : ps.length ≤ N) : ShP (.tuple ps) (d + 1) (N * (L + 2) + 3) := by
  obtain ⟨a, b, c, e⟩ := shp_all h
  refine ⟨by simp only [PyData.showable]; exact a, by simp only [PyData.hasDict]; exact b, by simp only [PyData.depth]; omega, ?_⟩
  simp only [PyData.shown]
  unfold tupleText
  have h1 : (Str.join ", " (PyData.shownAll ps)).length ≤ N * (L + 2) := by
    rw [TL.len_tl, TL.tl_join]
    refine Nat.le_trans (len_joinL (n := L) fun p hp => ?_) ?_
    · obtain ⟨t, ht, rfl⟩ := List.mem_map.mp hp
      rw [← TL.len_tl]
      exact e t ht
    · rw [List.length_map, shownAll_len, show (TL.tl (", " : Str)).length = 2 from by decide +kernel]
      exact Nat.mul_le_mul_right _ hn
  have h2 : ("(" : Str).length = 1 := by decide +kernel
  rw [str_len_app, str_len_app, h2]
  have h3 : (Str.ofString (if ((PyData.shownAll ps).length == 1) = true then ",)" else ")" : String)).length ≤ 2 := by
    split <;> decide +kernel
  omega
theorem toPs_map {α : Type} {M : Mem} {f : α → D} {h : α → PyData} : ∀ {xs : List α}, (∀ x ∈ xs, toP M (f x) = some (h x)) → toPs M (xs.map f) = some (xs.map h)
  | [], _ => rfl
  | x :: xs, k => by
    show (toP M (f x)).bind (fun p => (toPs M (xs.map f)).map fun ps => p :: ps) = _
    rw [k x List.mem_cons_self, Option.bind_some, toPs_map fun y hy => k y (List.mem_cons_of_mem _ hy)]
    rfl
def numsP (l : List Nat) : PyData := .tuple (l.map fun n : Nat => PyData.int (n : Int))
theorem toP_nums {M : Mem} {l : List Nat} : toP M (.tup (natsD l)) = some (numsP l) := by
  show (toPs M (l.map natD)).map PyData.tuple = _
  rw [toPs_map (f := natD) (h := fun n : Nat => PyData.int (n : Int)) fun x _ => rfl]
  rfl
def logP (l : List Ent) : PyData := .tuple ((l.map el).map numsP)
theorem toP_log {M : Mem} {l : List Ent} : toP M (logD l) = some (logP l) := by
  show (toPs M (l.map entD)).map PyData.tuple = _
  rw [toPs_map (f := entD) (h := fun e => numsP (el e)) fun e _ => toP_nums (l := el e)]
  unfold logP
  rw [List.map_map]
  rfl
def logsP (ls : List (List Ent)) : PyData := .tuple (ls.map logP)
theorem toP_logs {M : Mem} {ls : List (List Ent)} : toP M (logsD ls) = some (logsP ls) := by
  show (toPs M (ls.map logD)).map PyData.tuple = _
  rw [toPs_map (h := logP) fun l _ => toP_log]
  rfl
theorem toPs_sheet {M : Mem} {cs : List Nat} {dn un : List (List Ent)} : toPs M [.tup (natsD cs), logsD dn, logsD un] = some [numsP cs, logsP dn, logsP un] := by
  show (toP M (.tup (natsD cs))).bind (fun p => ((toP M (logsD dn)).bind fun p2 => ((toP M (logsD un)).bind fun p3 => (toPs M []).map fun ps => p3 :: ps).map fun ps => p2 :: ps).map fun ps => p :: ps) = _
  rw [toP_nums, toP_logs, toP_logs]
  rfl
theorem shp_nums {l : List Nat} {N : Nat} (h : Small l) (hl : l.length ≤ N) : ShP (numsP l) 1 (N * 12 + 3) := shp_tuple (fun p hp => by
  obtain ⟨n, hn, rfl⟩ := List.mem_map.mp hp
  exact shp_int (h n hn)) (by rw [List.length_map]; exact hl)
theorem shp_logs {ls : List (List Ent)} (h8 : ls.length ≤ 8) (hs : ∀ l ∈ ls, l.length ≤ 900) (h : ∀ l ∈ ls, ∀ e ∈ l, Small (el e)) : ShP (logsP ls) 3 (8 * 47708 + 3) := shp_tuple (d := 2) (L := 47706) (fun p hp => by
  obtain ⟨l, hl, rfl⟩ := List.mem_map.mp hp
  have h2 : ShP (logP l) (1 + 1) (900 * (51 + 2) + 3) := shp_tuple (fun p hp => by
    obtain ⟨x, hx, rfl⟩ := List.mem_map.mp hp
    obtain ⟨e, he, rfl⟩ := List.mem_map.mp hx
    exact shp_nums (N := 4) (h l hl e he) (show 4 ≤ 4 from Nat.le_refl _)) (by rw [List.length_map, List.length_map]; exact hs l hl)
  exact ⟨h2.sh, h2.nd, h2.dp, Nat.le_trans h2.ln (by decide)⟩) (by rw [List.length_map]; exact h8)
theorem shp_sheet {cs : List Nat} {dn un : List (List Ent)} (hc : Small cs) (hl : cs.length ≤ 20) (d8 : dn.length ≤ 8) (ds : ∀ l ∈ dn, l.length ≤ 900) (d : ∀ l ∈ dn, ∀ e ∈ l, Small (el e)) (u8 : un.length ≤ 8) (us : ∀ l ∈ un, l.length ≤ 900) (u : ∀ l ∈ un, ∀ e ∈ l, Small (el e)) :
    ShP (.tuple [numsP cs, logsP dn, logsP un]) 4 2000000 := by
  have h1 := shp_nums hc hl
  have h2 := shp_logs d8 ds d
  have h3 := shp_logs u8 us u
  have h := shp_tuple (ps := [numsP cs, logsP dn, logsP un]) (d := 3) (L := 500000) (N := 3) (fun p hp => by
    have hp : p = numsP cs ∨ p = logsP dn ∨ p = logsP un := by simpa using hp
    rcases hp with rfl | rfl | rfl
    · exact ⟨h1.sh, h1.nd, Nat.le_trans h1.dp (by decide), Nat.le_trans h1.ln (by decide)⟩
    · exact ⟨h2.sh, h2.nd, h2.dp, Nat.le_trans h2.ln (by decide)⟩
    · exact ⟨h3.sh, h3.nd, h3.dp, Nat.le_trans h3.ln (by decide)⟩) (Nat.le_refl _)
  exact ⟨h.sh, h.nd, h.dp, Nat.le_trans h.ln (by decide)⟩
end DL

set_option Elab.async false
set_option linter.all false
set_option maxRecDepth 100000
set_option maxHeartbeats 1000000
/-! # The law -/
namespace DL
open PySem PySem.Spec PyProof.Rows L2
open Evl (Ex)
open TL (joinL numL)
local macro_rules | `(tactic| walk_at "sw") => `(tactic| (intro env h; obtain ⟨sc, _, _, _, _, _, _, _, _⟩ := env; (have h : sc = _ := h); subst h; rfl))
variable {g : Gb}
theorem LawAt.fresh {M : Mem} {p s b : Addr} {m : MO} {ms first : List Nat} {dn lf : List Deed} (A : LawAt g M p s ms first dn lf) (h : M b = none) : LawAt g (mup M b m) p s ms first dn lf :=
  ⟨by rw [mup_ne (ne_none A.hp h)]; exact A.hp, by rw [mup_ne (ne_none A.hs h)]; exact A.hs, A.gm, A.cf, A.hd, A.hl⟩
theorem TabEq.fresh {M : Mem} {b : Addr} {ds : List D} (h : M b = none) : TabEq M (mup M b (.lst ds)) := TabEq.up (fun q => by rw [h]; intro z; cases z) (fun q z => by cases z)
/-- the text of the law's desk -/
theorem desk_text {ms first : List Nat} (gm : GoodMs ms) (cf : CellsOk first) : (goodT ms ++ "\ncells " ++ rowT first : Str).length ≤ 10000 ∧ linesOf (goodT ms ++ "\ncells " ++ rowT first) = [goodT ms, "cells " ++ rowT first] ∧ storeOf (goodT ms ++ "\ncells " ++ rowT first) = .inr (ms, first) := by
  have hne : first ≠ [] := fun e => by
    have := cf.lo
    rw [e] at this
    exact absurd this (by decide)
  have h1 := good_size gm
  have h2 := rowT_len cf.each
  have h3 := cf.hi
  have h4 : ("\ncells " : Str).length = 7 := by decide +kernel
  have t1 : TL.tl ("\ncells " : Str) = 10 :: TL.tl ("cells " : Str) := by decide +kernel
  have t2 : TL.tl ("cells " : Str) = [99, 101, 108, 108, 115, 32] := by decide +kernel
  have e : linesOf (goodT ms ++ "\ncells " ++ rowT first) = goodT ms :: linesOf ("cells " ++ rowT first) := lines_cut (by rw [TL.tl_append, TL.tl_append, TL.tl_append, t1, List.append_assoc]; rfl) (good_nl ms)
  have tc : TL.tl (("cells " : Str) ++ rowT first) = [99, 101, 108, 108, 115, 32] ++ joinL [32] (first.map numL) := by rw [TL.tl_append, t2, tl_row]
  have e1 : linesOf (("cells " : Str) ++ rowT first) = [("cells " : Str) ++ rowT first] := lines_one (by
    rw [tc]
    intro h
    rcases List.mem_append.mp h with h | h
    · exact absurd h (by decide)
    · exact row_free (by decide) (.inl (by decide)) h)
  rw [e1] at e
  have hc6 : ("cells " : Str).length = 6 := by decide +kernel
  refine ⟨by rw [str_len_app, str_len_app]; omega, e, ?_⟩
  obtain ⟨b1, b2⟩ := good_both gm
  rw [storeOf_L, e, storeL_good b1, b2]
  have e0 : ([("cells " : Str) ++ rowT first] : List Str).getD 0 Str.empty = "cells " ++ rowT first := rfl
  have ec : cellsOf (("cells " : Str) ++ rowT first) = first.map some := by
    have ecut : cutS (("cells " : Str) ++ rowT first) (some 6) none = rowT first := by
      refine TL.ext_tl ?_
      rw [show (6 : Int) = ((6 : Nat) : Int) from rfl, tl_cut (by rw [str_len_app]; omega), tc, tl_row]
      rfl
    unfold cellsOf
    rw [ecut, split_words (x := rowT first) (ws := first.map strN) (by rw [tl_row, map_numL]) (by simpa using hne) fun w hw => by
      obtain ⟨n, _, rfl⟩ := List.mem_map.mp hw
      exact strN_free (.inl (by decide))]
    exact nums_some cf.each
  have es : Txt.startswith (("cells " : Str) ++ rowT first) "cells " = true := by
    unfold Txt.startswith
    rw [Bool.and_eq_true]
    refine ⟨decide_eq_true (by rw [str_len_app]; omega), ?_⟩
    rw [StrLaws.subAt_eq, List.drop_zero, hc6, show (("cells " : Str) ++ rowT first).cps.toList = [99, 101, 108, 108, 115, 32] ++ joinL [32] (first.map numL) from tc, show ("cells " : Str).cps.toList = [99, 101, 108, 108, 115, 32] from t2]
    rfl
  unfold rest2
  rw [e0, if_neg (by rw [es]; decide), ec, noneIn_some, List.length_map, if_neg (fun h => h.elim (fun z => by cases z) fun z => by omega), if_neg (show ¬ 1 < [("cells " : Str) ++ rowT first].length from Nat.lt_irrefl 1), vals_some]
def sp_law (g : Gb) : DSp := fun ds M Q _ => ∃ ns : List Int, ds = [.fro (ns.map D.int)] ∧ TabsM g M ∧ ∀ M', Q (.bl true) M'
theorem fok_law (TL : Tl g) {fd : FuncData} (F : Fun g.K "law" "law" (topS 92) (He.fAd g.K ("law", none)) fd) : FnG g.P g.w g.K g.mg g.base 16 (He.fAd g.K ("law", none)) fd ["_law_script"] (Lsp g (sp_law g)) := by
  have T := TL.t
  have T' := T.b
  refine fn_defG (pd := ("law", none)) (N := ["_law_script", "_law_box_here", "_law_marks_here", "_law_cells_here", "_law_first", "_law_cell", "_law_desk", "_law_done", "_law_left", "_law_k", "_law_moved_here", "_law_due"]) F ⟨rfl, rfl, rfl, by decide +kernel, rfl, by decide +kernel, by decide +kernel⟩ (by rintro _ _ _ _ ⟨_, rfl, _⟩; rfl) ?_
  rintro _ M Qd Ed cd hcd ⟨ns, rfl, hT, q⟩
  have hz2 := sizeLine_eq
  have h10 : (10 : Nat) ^ 10 = 10000000000 := by decide
  have h9 : (10 : Nat) ^ 9 = 1000000000 := by decide
  refine sxs_cons ?_
  refine sx_set (i := 1) rfl rfl ?_
  refine ex_call (ok__law_box T') (Nat.le_of_ble_eq_true rfl) rfl ?_
  refine ax2 ?_
  refine ex_name (i := 0) rfl rfl rfl ?_
  refine ex_int ?_
  refine ⟨ns, 0, rfl, by decide, fun b hb G S => ?_⟩
  refine sxs_cons ?_
  refine sx_set (i := 2) rfl rfl ?_
  refine ex_call (ok__law_marks T') (Nat.le_of_ble_eq_true rfl) rfl ?_
  refine ax1 ?_
  refine ex_name (i := 1) rfl rfl rfl ?_
  refine ⟨b, G, S, rfl, mup_same, fun ms G1 S1 gm => ?_⟩
  rw [mup_mup]
  have h8 := gm.mo.hi
  have gln := gm.ln
  have glo := gm.mo.lo
  refine sxs_cons ?_
  refine sx_set (i := 3) rfl rfl ?_
  refine ex_call (ok__law_pick T') (Nat.le_of_ble_eq_true rfl) rfl ?_
  refine ax2 ?_
  refine ex_name (i := 1) rfl rfl rfl ?_
  refine ex_lst ?_
  refine ax4 ?_
  refine ex_int ?_
  refine ex_int ?_
  refine ex_int ?_
  refine ex_int ?_
  refine ⟨by show 4 ≤ sizeLine; decide, ?_⟩
  refine ⟨b, G1, S1, _, natsD [1, 2, 5, 20], rfl, mup_same, .inl rfl, by decide, by decide, fun d G2 S2 hd => ?_⟩
  rw [mup_mup]
  obtain ⟨nc, hnc, rfl⟩ := List.mem_map.mp hd
  have hnc2 : 1 ≤ nc ∧ nc ≤ 20 := by
    have : nc = 1 ∨ nc = 2 ∨ nc = 5 ∨ nc = 20 := by simpa using hnc
    omega
  clear hnc hd
  refine sxs_cons ?_
  refine sx_setLc (i := 4) (own := [("_law_cell", 5)]) (by kernel_rfl) rfl rfl rfl rfl ?_
  refine ix_rng1 rfl T'.f_range ?_
  refine ex_name (i := 3) rfl rfl rfl ?_
  refine ⟨_, rfl, by omega, by omega, ?_⟩
  rw [rngD_zero, Int.toNat_natCast]
  refine LcD.imp (lc_box (P := fun d => ∃ m, d = natD m ∧ m < 1000000000) (G := G2) (S := S2) (b := b) mup_same (by rw [List.length_range]; omega) (fun _ => trivial) (fun x hx M' G3 S3 hM3 => ?_) fun ds G3 S3 hl hP => ?_) fun _ _ k => .inr k
  · refine gw_name (i := 5) rfl rfl (by decide) ?_
    refine ⟨rfl, ?_⟩
    refine ex_call (ok__law_pick T') (Nat.le_of_ble_eq_true rfl) rfl ?_
    refine ax2 ?_
    refine ex_name (i := 1) rfl rfl rfl ?_
    refine ex_lst ?_
    refine ax3 ?_
    refine ex_int ?_
    refine ex_int ?_
    refine ex_call (ok__law_take T') (Nat.le_of_ble_eq_true rfl) rfl ?_
    refine ax2 ?_
    refine ex_name (i := 1) rfl rfl rfl ?_
    refine ex_pow ?_
    refine ex_int ?_
    refine ex_int ?_
    refine v_pow_nat (m := 10) (n := 9) (by decide) (by decide) ?_
    refine ⟨b, G3, S3, 10 ^ 9, rfl, hM3, by decide, by decide, fun n G4 S4 hn => ?_⟩
    refine ⟨by show 3 ≤ sizeLine; decide, ?_⟩
    refine ⟨b, G4, S4, _, natsD [0, 999999999, n], rfl, mup_same, .inl rfl, by show 0 < 3; decide, by show 3 < 1000000; decide, fun dv G5 S5 hdv => ?_⟩
    rw [mup_mup]
    obtain ⟨v, hv, rfl⟩ := List.mem_map.mp hdv
    refine ⟨⟨v, rfl, ?_⟩, _, _, rfl⟩
    have : v = 0 ∨ v = 999999999 ∨ v = n := by simpa using hv
    omega
  rw [mup_mup]
  rw [List.length_range] at hl
  obtain ⟨first, hfi⟩ : ∃ first : List Nat, first = ds.map unnat := ⟨_, rfl⟩
  have eds : ds = natsD first := by
    subst hfi
    unfold natsD
    rw [List.map_map]
    refine ((List.map_congr_left (g := id) fun d hd => ?_).trans (List.map_id _)).symm
    obtain ⟨m, rfl, _⟩ := hP d hd
    show natD (((m : Int)).toNat) = natD m
    rw [Int.toNat_natCast]
  have hfl : first.length = nc := by rw [hfi, List.length_map]; exact hl
  have cf : CellsOk first := ⟨by omega, by omega, fun n hn => by
    rw [hfi] at hn
    obtain ⟨d, hd, rfl⟩ := List.mem_map.mp hn
    obtain ⟨m, rfl, hm⟩ := hP d hd
    show ((m : Int)).toNat < _
    rw [Int.toNat_natCast]
    exact hm⟩
  rw [eds, ← hfl]
  clear hP hl eds hfi hnc2 hfl
  obtain ⟨tl1, tl2, tl3⟩ := desk_text gm cf
  obtain ⟨gb1, gb2⟩ := good_both gm
  have sf : Small first := fun n hn => by have := cf.each n hn; omega
  have sms : Small ms := fun n hn => by have := gm.mo.each n hn; omega
  have hhi := cf.hi
  have gsz := good_size gm
  refine sxs_cons ?_
  refine sx_set (i := 6) rfl rfl ?_
  refine ex_makeK (kck_Desk T) (Nat.le_of_ble_eq_true rfl) rfl ?_
  refine ex_add ?_
  refine ex_add ?_
  refine ex_add ?_
  refine ex_str ?_
  refine ex_call (ok__law_row T') (Nat.le_of_ble_eq_true rfl) rfl ?_
  refine ax1 ?_
  refine ex_name (i := 2) rfl rfl rfl ?_
  refine ⟨_, ms, rfl, .inl rfl, by omega, sms, ?_⟩
  have sz1 : (("hands " : Str) ++ rowT ms).length ≤ 100 := gsz
  have sz2 : ("hands " : Str).length + (rowT ms).length ≤ 100 := by
    rw [← str_len_app]
    exact gsz
  have hc7 : ("\ncells " : Str).length = 7 := by decide +kernel
  have hr2 := rowT_len cf.each
  refine v_add_str (by omega) ?_
  refine ex_str ?_
  refine v_add_str (by omega) ?_
  refine ex_call (ok__law_row T') (Nat.le_of_ble_eq_true rfl) rfl ?_
  refine ax1 ?_
  refine ex_name (i := 4) rfl rfl rfl ?_
  refine ⟨_, first, rfl, .inl rfl, by omega, sf, ?_⟩
  refine v_add_str (by rw [str_len_app]; omega) ?_
  intro p hp
  have hpb := none_mup hp
  refine ⟨p, _, rfl, mup_same, .inr ⟨goodT ms ++ "\ncells " ++ rowT first, rfl, tl1, lines_len tl1, fun _ => ?_, .inr ⟨ms, first, tl3, cf, fun _ s hs => ⟨rfl, ?_⟩, fun hn => absurd gm.te hn⟩⟩⟩
  · rw [tl2]
    show MsOk (valsOf (mksOf (goodT ms)))
    rw [gb2]
    exact gm.mo
  obtain ⟨hsp, hs2⟩ := none_mup hs
  have hsb := none_mup hs2
  have A0 : LawAt g (mup (mup (mup (mup M b (boxO G3 S3)) p (.ins (ga g "Desk") [] [])) s (storeO g ms first (noLogs ms.length) (noLogs ms.length))) p (deskO g s)) p s ms first [] [] :=
    ⟨mup_same, by rw [mup_ne hsp]; exact mup_same, gm, cf, (fun d hd => by cases hd), Nat.zero_le _⟩
  have E0 : TabEq M (mup (mup (mup (mup M b (boxO G3 S3)) p (.ins (ga g "Desk") [] [])) s (storeO g ms first (noLogs ms.length) (noLogs ms.length))) p (deskO g s)) :=
    (TabEq.fresh hb).trans ((TabEq.up (fun q => by rw [hp]; intro z; cases z) (fun q z => by cases z)).trans ((TabEq.up (fun q => by rw [hs]; intro z; cases z) (fun q z => by cases z)).trans (TabEq.up (fun q => by rw [mup_ne (Ne.symm hsp), mup_same]; intro z; cases z) (fun q z => by cases z))))
  have B0 : (mup (mup (mup (mup M b (boxO G3 S3)) p (.ins (ga g "Desk") [] [])) s (storeO g ms first (noLogs ms.length) (noLogs ms.length))) p (deskO g s)) b = some (boxO G3 S3) := by
    rw [mup_ne (Ne.symm hpb.1), mup_ne (Ne.symm hsb.1), mup_ne (Ne.symm hpb.1)]
    exact mup_same
  generalize mup (mup (mup (mup M b (boxO G3 S3)) p (.ins (ga g "Desk") [] [])) s (storeO g ms first (noLogs ms.length) (noLogs ms.length))) p (deskO g s) = M1 at A0 E0 B0
  clear hp hs hs2 hsp hsb hpb
  refine sxs_cons ?_
  refine sx_par (i := 7) (j := 8) rfl rfl (by decide) rfl rfl (by walk_at "sw") ?_
  refine ax2 ?_
  refine ex_lst ?_
  refine ax_nil ?_
  refine ⟨by show 0 ≤ sizeLine; decide, ?_⟩
  refine ex_lst ?_
  refine ax_nil ?_
  refine ⟨by show 0 ≤ sizeLine; decide, ?_⟩
  refine ⟨_, _, rfl, ?_⟩
  refine sxs_cons ?_
  refine sx_for ?_
  refine ix_rng2 rfl T'.f_range ?_
  refine ex_int ?_
  refine ex_max rfl T'.f_max ?_
  refine ex_int ?_
  refine ex_min rfl T'.f_min ?_
  refine ex_len rfl T'.f_len ?_
  refine ex_name (i := 0) rfl rfl rfl ?_
  refine v_len_fro ?_
  refine ex_int ?_
  refine ⟨_, _, rfl, rfl, ?_⟩
  refine ⟨_, _, rfl, rfl, ?_⟩
  obtain ⟨N, hN⟩ : ∃ N : Int, N = (if (if (32 : Int) < ((ns.map D.int).length : Int) then (32 : Int) else ((ns.map D.int).length : Int)) > 20 then (if (32 : Int) < ((ns.map D.int).length : Int) then (32 : Int) else ((ns.map D.int).length : Int)) else 20) := ⟨_, rfl⟩
  rw [← hN]
  have hN2 : 20 ≤ N ∧ N ≤ 32 := by
    rw [hN]
    split <;> split at * <;> omega
  clear hN
  refine ⟨1, N, rfl, rfl, ⟨by omega, by omega, by omega, by omega⟩, ?_⟩
  obtain ⟨n, hn⟩ : ∃ n : Nat, n = (N - 1).toNat := ⟨_, rfl⟩
  rw [← hn]
  have hn2 : n ≤ 31 := by omega
  clear hn hN2
  rw [show (1 : Int) = ((1 : Nat) : Int) from rfl, rngD_nat]
  refine for_walk (xs := List.range n) (fun r δ2 M2 => (∀ x ∈ r, x < 40) ∧ r.length ≤ 31 ∧ ∃ b2 G2 S2 s2 dn lf, ∃ u v w : Option D, TabEq M M2 ∧ M2 b2 = some (boxO G2 S2) ∧ LawAt g M2 p s2 ms first dn lf ∧ dn.length + lf.length + r.length ≤ 31 ∧
      δ2 = [some (.fro (ns.map D.int)), some (.ref b2), some (.lst (natsD ms)), some (natD first.length), some (.lst (natsD first)), u, some (.ref p), some (ldeedsD dn), some (ldeedsD lf), v, w, none])
    ⟨fun x hx => by have := List.mem_range.mp hx; omega, by rw [List.length_range]; omega, b, G3, S3, s, [], [], _, _, _, E0, B0, A0, by rw [List.length_range]; exact (by omega : 0 + 0 + n ≤ 31), rfl⟩ (fun _ _ _ _ => trivial) ?_ ?_
  · rintro x r δ2 M2 ⟨hx, hrl, b2, G4, S4, s2, dn, lf, u, v, w, e2, hb2, A2, hdl, rfl⟩
    have hx1 := hx x List.mem_cons_self
    rw [List.length_cons] at hdl hrl
    refine gx_name (i := 9) rfl rfl ?_
    refine sxs_cons ?_
    refine sx_set (i := 1) rfl rfl ?_
    refine ex_call (ok__law_box T') (Nat.le_of_ble_eq_true rfl) rfl ?_
    refine ax2 ?_
    refine ex_name (i := 0) rfl rfl rfl ?_
    refine ex_name (i := 9) rfl rfl rfl ?_
    refine ⟨ns, 1 + x, rfl, by omega, fun b3 hb3 G5 S5 => ?_⟩
    have A3 : LawAt g (mup M2 b3 (boxO G5 S5)) p s2 ms first dn lf := A2.fresh hb3
    have e3 : TabEq M (mup M2 b3 (boxO G5 S5)) := e2.trans (TabEq.fresh hb3)
    refine sxs_cons ?_
    refine sx_set (i := 10) rfl rfl ?_
    refine ex_call (ok__law_moved T) (Nat.le_of_ble_eq_true rfl) rfl ?_
    refine ax_cons ?_
    refine ex_name (i := 1) rfl rfl rfl ?_
    refine ax_cons ?_
    refine ex_name (i := 6) rfl rfl rfl ?_
    refine ax5 ?_
    refine ex_name (i := 2) rfl rfl rfl ?_
    refine ex_name (i := 4) rfl rfl rfl ?_
    refine ex_name (i := 7) rfl rfl rfl ?_
    refine ex_name (i := 8) rfl rfl rfl ?_
    refine ex_name (i := 3) rfl rfl rfl ?_
    refine ⟨b3, G5, S5, p, s2, ms, first, dn, lf, rfl, mup_same, A3, by omega, fun M4 dn4 lf4 G6 S6 e4 hb4 A4 hl4 => ?_⟩
    have e5 := e3.trans e4
    refine sxs_cons ?_
    refine sx_if ?_
    refine tx_isN ?_
    refine ex_name (i := 10) rfl rfl rfl ?_
    refine cnd_f rfl ?_
    refine sxs_nil ?_
    refine sxs_cons ?_
    refine sx_asg (hw := by walk_at "sw") ?_
    refine ex_name (i := 10) rfl rfl rfl ?_
    refine gx_tup (n := 2) ⟨_, rfl, rfl, ?_⟩
    refine gxs_cons ?_
    refine gx_name (i := 7) rfl rfl ?_
    refine gxs_cons ?_
    refine gx_name (i := 8) rfl rfl ?_
    refine gxs_nil ?_
    refine sxs_cons ?_
    refine sx_if ?_
    refine tx_not ?_
    refine tx_val ?_
    refine ex_call (ok__law_asked_right T) (Nat.le_of_ble_eq_true rfl) rfl ?_
    refine ax_cons ?_
    refine ex_name (i := 1) rfl rfl rfl ?_
    refine ax5 ?_
    refine ex_name (i := 6) rfl rfl rfl ?_
    refine ex_name (i := 2) rfl rfl rfl ?_
    refine ex_name (i := 4) rfl rfl rfl ?_
    refine ex_name (i := 7) rfl rfl rfl ?_
    refine ex_name (i := 8) rfl rfl rfl ?_
    refine ⟨b3, G6, S6, p, s2, ms, first, dn4, lf4, rfl, hb4, A4, fun M6 s6 G7 S7 e6 hb6 A6 => ?_⟩
    have e7 := e5.trans e6
    refine v_bl ?_
    refine cnd_f rfl ?_
    refine sxs_nil ?_
    refine sxs_one ?_
    refine sx_if ?_
    refine tx_w ?_
    refine wt_and ?_
    refine tx_eq ?_
    refine ex_call (ok__law_take T') (Nat.le_of_ble_eq_true rfl) rfl ?_
    refine ax2 ?_
    refine ex_name (i := 1) rfl rfl rfl ?_
    refine ex_int ?_
    refine ⟨b3, G7, S7, 6, rfl, hb6, by decide, by decide, fun k G8 S8 hk => ?_⟩
    have A8 : LawAt g (mup M6 b3 (boxO G8 S8)) p s6 ms first dn4 lf4 := A6.box hb6
    have e8 : TabEq M (mup M6 b3 (boxO G8 S8)) := e7.trans (TabEq.box hb6)
    refine ex_int ?_
    refine v_eq_nat (n := 0) ?_
    refine v_bl ?_
    refine cnd (fun hb => ?_) fun hb => ?_
    · refine wt_and1 ?_
      refine tx_not ?_
      refine tx_val ?_
      refine ex_callG (ok__law_bad_lines_right TL) (Nat.le_of_ble_eq_true rfl) rfl rfl ?_
      refine ax4 ?_
      refine ex_name (i := 1) rfl rfl rfl ?_
      refine ex_name (i := 6) rfl rfl rfl ?_
      refine ex_len rfl T'.f_len ?_
      refine ex_name (i := 2) rfl rfl rfl ?_
      refine v_len_lst ?_
      rw [natsD_len]
      refine ex_name (i := 3) rfl rfl rfl ?_
      refine ⟨b3, G8, S8, p, s6, ms, first, dn4, lf4, rfl, mup_same, A8, hT.eq e8, fun M9 s9 G9 S9 e9 hb9 A9 => ?_⟩
      refine v_bl ?_
      refine cnd_f rfl ?_
      refine sxs_nil ?_
      exact ⟨fun y hy => hx y (List.mem_cons_of_mem _ hy), by omega, b3, G9, S9, s9, dn4, lf4, _, _, _, e8.trans e9, hb9, A9, by omega, rfl⟩
    · refine sxs_nil ?_
      exact ⟨fun y hy => hx y (List.mem_cons_of_mem _ hy), by omega, b3, G8, S8, s6, dn4, lf4, _, _, _, e8, mup_same, A8, by omega, rfl⟩
  · rintro δ2 M2 ⟨_, _, b2, G4, S4, s2, dn, lf, u, v, w, e2, hb2, A2, hdl, rfl⟩
    refine sxs_cons ?_
    refine sx_if ?_
    refine tx_w ?_
    refine wt_or ?_
    refine tx_not ?_
    refine tx_val ?_
    refine ex_callG (ok__law_texts_right TL) (Nat.le_of_ble_eq_true rfl) rfl rfl ?_
    refine ax2 ?_
    refine ex_name (i := 1) rfl rfl rfl ?_
    refine ex_name (i := 2) rfl rfl rfl ?_
    refine ⟨b2, G4, S4, ms, rfl, hb2, gm, hT.eq e2, fun M3 G5 S5 e3 hb3 k3 => ?_⟩
    have e4 := e2.trans e3
    have A3 : LawAt g M3 p s2 ms first dn lf := ⟨k3 _ _ (box_ne hb2 A2.hp) A2.hp, k3 _ _ (box_ne hb2 A2.hs) A2.hs, A2.gm, A2.cf, A2.hd, A2.hl⟩
    refine v_bl ?_
    refine cnd_f rfl ?_
    refine wt_or1 ?_
    refine tx_not ?_
    refine tx_val ?_
    refine ex_callG (ok__law_bad_lines_right TL) (Nat.le_of_ble_eq_true rfl) rfl rfl ?_
    refine ax4 ?_
    refine ex_name (i := 1) rfl rfl rfl ?_
    refine ex_name (i := 6) rfl rfl rfl ?_
    refine ex_len rfl T'.f_len ?_
    refine ex_name (i := 2) rfl rfl rfl ?_
    refine v_len_lst ?_
    rw [natsD_len]
    refine ex_name (i := 3) rfl rfl rfl ?_
    refine ⟨b2, G5, S5, p, s2, ms, first, dn, lf, rfl, hb3, A3, hT.eq e4, fun M5 s5 G6 S6 e5 hb5 A5 => ?_⟩
    refine v_bl ?_
    refine cnd_f rfl ?_
    refine sxs_nil ?_
    have TO := A5.told
    obtain ⟨sm1, sm2, sm3, _, _⟩ := A5.smalls
    have lcs : (cellsAt first dn).length = first.length := cellsAt_len
    refine sxs_cons ?_
    refine sx_set (i := 11) rfl rfl ?_
    refine ex_call (ok__law_led T') (Nat.le_of_ble_eq_true rfl) rfl ?_
    refine ax5 ?_
    refine ex_name (i := 2) rfl rfl rfl ?_
    refine ex_call (ok__law_size T') (Nat.le_of_ble_eq_true rfl) rfl ?_
    refine ax1 ?_
    refine ex_name (i := 2) rfl rfl rfl ?_
    refine ⟨ms, rfl, gm.mo, ?_⟩
    refine ex_name (i := 4) rfl rfl rfl ?_
    refine ex_name (i := 7) rfl rfl rfl ?_
    refine ex_name (i := 8) rfl rfl rfl ?_
    refine ⟨ms, first, dn, lf, rfl, gm, hhi, A5.hd, A5.hl, ?_⟩
    have S0 := shp_sheet (cs := cellsAt first dn) (dn := ledDone ms first dn) (un := ledGone ms first dn lf) A5.desk.c1 (by omega) (by rw [TO.sh.dn.len]; exact h8) TO.sh.dn.short (logs_small gm.mo TO.sh.co.hi TO.sh.dn) (by rw [TO.sh.un.len]; exact h8) TO.sh.un.short (logs_small gm.mo TO.sh.co.hi TO.sh.un)
    obtain ⟨sh, rD⟩ : ∃ sh : Str, ∀ {Q : D → Mem → Prop}, Q (.str sh) M5 → ReprD true (sheetD (cellsAt first dn) (ledDone ms first dn) (ledGone ms first dn lf)) M5 Q := ⟨_, fun {Q} k => ⟨rfl, _, toPs_sheet, S0.sh, S0.nd, by have := S0.dp; omega, by have := S0.ln; omega, k⟩⟩
    refine sxs_one ?_
    refine sx_ret ?_
    refine ex_and ?_
    refine ex_eq ?_
    refine ex_repr rfl T'.f_repr ?_
    refine ex_meth0 (ok_Store_sheet T') T'.cls_Store (Nat.le_of_ble_eq_true rfl) ?_
    refine ex_fld T'.cls_Desk T'.no_Desk_store ?_
    refine ex_name (i := 6) rfl rfl rfl ?_
    refine ⟨_, _, _, A5.hp, rfl, ?_⟩
    refine ⟨_, _, A5.hs, by decide, ?_⟩
    refine ⟨s5, ms, _, _, _, rfl, A5.hs, ?_⟩
    refine rD ?_
    refine ex_repr rfl T'.f_repr ?_
    refine ex_name (i := 11) rfl rfl rfl ?_
    refine rD ?_
    refine v_eq_str ?_
    refine v_bl ?_
    refine cnd_t (by exact decide_eq_true rfl) ?_
    refine ex_bone ?_
    refine ex_eq ?_
    refine ex_meth (ok_Desk_say T) T'.cls_Desk (Nat.le_of_ble_eq_true rfl) ?_
    refine ex_name (i := 6) rfl rfl rfl ?_
    refine ⟨_, _, A5.hp, by decide, ?_⟩
    refine ax1 ?_
    refine ex_str ?_
    refine ⟨p, s5, ms, _, _, _, _, ["deeds"], rfl, A5.desk, .inr ⟨_, rfl, by decide +kernel, by decide +kernel⟩, A5.deeds ?_⟩
    refine ex_call (ok__law_rows T') (Nat.le_of_ble_eq_true rfl) rfl ?_
    refine ax1 ?_
    refine ex_name (i := 7) rfl rfl rfl ?_
    refine ⟨_, dn.map dl, rfl, .inl (ldeeds_rows dn), by rw [List.length_map]; omega, fun l hl => ?_, ?_⟩
    · obtain ⟨d, hd, rfl⟩ := List.mem_map.mp hl
      exact ⟨(show 0 < 3 by decide), (show 3 ≤ 4 by decide), sm2 d hd⟩
    refine v_eq_str ?_
    rw [decide_eq_true rfl]
    exact rt_of (q M5)
end DL

set_option Elab.async false
set_option linter.all false
set_option maxRecDepth 100000
set_option maxHeartbeats 2000000
/-! # The four exceptions that are raised -/
namespace DL
open PySem PySem.Spec PyProof.Rows L2
open PySem.XI (ClsF InitF BodyF supS excD Tail)
section
variable {P : Program} {w : World} {K : PySem.W.Frag} {C fI cc : Addr} {q : Str} {params : Arguments} {body0 : List Stmt} {scope : Scope} {BN newId BI initId : String}
theorem stores1 {y : Str} {a1 a2 a3 a4 : Pos} (F : ClsF P K C fI cc q params body0 scope BN newId BI initId) (nf : PySem.W.findIn K (.ref C) y = some none) (hk : scope.kind = .function) (ky : scope.names.lookup y = some .local) (ks : scope.names.lookup ("self" : Str) = some .local) (hd : (y == ("__debug__" : Str)) = false) (ne : (("self" : Str) == y) = false)
    (hsw : ∀ L cdv, swapsWith (.Name y a3) (some (.Attribute (.Name "self" a1) y a2)) a4.line (PySem.W.ksEnv q scope L fI cdv cc) = pure false) : StoresF P w K C fI cc q scope [y] [.Assign [.Attribute (.Name "self" a1) y a2] (.Name y a3) a4] := by
  intro A L a t1 cda us vs h2 g d tk os Q fs hl r X nK he hn nL k
  cases us with
  | nil => cases hl
  | cons u us =>
  cases us with
  | cons _ _ => cases hl
  | nil =>
  cases r with
  | @cons v _ vs' _ rv rr =>
    cases rr
    have l1 : (([(("self" : Str), Value.ref a), (y, u)]).reverse.lookup y) = some u := by
      show ([(y, u), (("self" : Str), Value.ref a)].lookup y) = some u
      simp [List.lookup]
    have l2 : (([(("self" : Str), Value.ref a), (y, u)]).reverse.lookup ("self" : Str)) = some (.ref a) := by
      show ([(y, u), (("self" : Str), Value.ref a)].lookup ("self" : Str)) = some (.ref a)
      simp [List.lookup, ne]
    refine wpAny_execs_cons (PySem.XI.asg_one F nf X hn l1 l2 he hk ky ks hd (hsw L _) fun h' tk' dx k1 dn dne e1 n1 => ?_)
    refine wpAny_execs_nil (k h' tk' dx _ k1 dn dne e1 n1 fun f => ?_)
    show RelO (([(y, v)] : List (Str × V)).lookup f) (if f = y then some u else none)
    rw [lookup_put]
    by_cases h : f = y
    · rw [if_pos h, if_pos h]
      exact rv
    · rw [if_neg h, if_neg h]
      exact True.intro
theorem stores2 {y z : Str} {a1 a2 a3 a4 b1 b2 b3 b4 : Pos} (F : ClsF P K C fI cc q params body0 scope BN newId BI initId) (nf : PySem.W.findIn K (.ref C) y = some none) (nz : PySem.W.findIn K (.ref C) z = some none) (hk : scope.kind = .function) (ky : scope.names.lookup y = some .local) (kz : scope.names.lookup z = some .local) (ks : scope.names.lookup ("self" : Str) = some .local)
    (hd : (y == ("__debug__" : Str)) = false) (hd2 : (z == ("__debug__" : Str)) = false) (ne : (("self" : Str) == y) = false) (ne2 : (("self" : Str) == z) = false) (ne3 : (y == z) = false)
    (hsw : ∀ L cdv, swapsWith (.Name y a3) (some (.Attribute (.Name "self" a1) y a2)) a4.line (PySem.W.ksEnv q scope L fI cdv cc) = pure false) (hsw2 : ∀ L cdv, swapsWith (.Name z b3) (some (.Attribute (.Name "self" b1) z b2)) b4.line (PySem.W.ksEnv q scope L fI cdv cc) = pure false) :
    StoresF P w K C fI cc q scope [y, z] [.Assign [.Attribute (.Name "self" a1) y a2] (.Name y a3) a4, .Assign [.Attribute (.Name "self" b1) z b2] (.Name z b3) b4] := by
  intro A L a t1 cda us vs h2 g d tk os Q fs hl r X nK he hn nL k
  cases us with
  | nil => cases hl
  | cons u us =>
  cases us with
  | nil => cases hl
  | cons u' us =>
  cases us with
  | cons _ _ => cases hl
  | nil =>
  cases r with
  | @cons v _ vs' _ rv rr =>
  cases rr with
  | @cons v' _ vs'' _ rv' rr =>
    cases rr
    have l1 : (([(("self" : Str), Value.ref a), (y, u), (z, u')]).reverse.lookup y) = some u := by
      show ([(z, u'), (y, u), (("self" : Str), Value.ref a)].lookup y) = some u
      simp [List.lookup, ne3]
    have l2 : (([(("self" : Str), Value.ref a), (y, u), (z, u')]).reverse.lookup ("self" : Str)) = some (.ref a) := by
      show ([(z, u'), (y, u), (("self" : Str), Value.ref a)].lookup ("self" : Str)) = some (.ref a)
      simp [List.lookup, ne, ne2]
    have l3 : (([(("self" : Str), Value.ref a), (y, u), (z, u')]).reverse.lookup z) = some u' := by
      show ([(z, u'), (y, u), (("self" : Str), Value.ref a)].lookup z) = some u'
      simp [List.lookup]
    refine wpAny_execs_cons (PySem.XI.asg_one F nf X hn l1 l2 he hk ky ks hd (hsw L _) fun h' tk' dx k1 dn dne e1 n1 => ?_)
    have n2 : h'.Ns L (fun x => ([(("self" : Str), Value.ref a), (y, u), (z, u')]).reverse.lookup x) := by
      obtain ⟨oL, es, ep, e2, r2⟩ := hn
      exact ⟨oL, es, ep, k1 _ _ nL e2, r2⟩
    have X2 : K.In h' := fun b o e => k1 b o (nK b o e) (X b o e)
    refine wpAny_execs_cons (PySem.XI.asg_two (nl := [y]) F nz X2 n2 l3 l2 e1 n1 (fun x hx => ?_) (by show 1 ≤ 1000; decide) hk kz ks hd2 (hsw2 L _) fun h3 tk3 k3 n3 => ?_)
    · by_cases h : x = y
      · rw [h]
        exact List.mem_cons_self
      · exact absurd (if_neg h) hx
    refine wpAny_execs_nil (k h3 tk3 dx _ (fun b o hb e => k3 b o (Nat.ne_of_lt (Nat.lt_of_lt_of_le (Heap.lt_size e) dn)) (k1 b o hb e)) dn dne (k3 _ _ (Ne.symm dne) e1) n3 fun f => ?_)
    show RelO (([(y, v), (z, v')] : List (Str × V)).lookup f) (if f = z then some u' else if f = y then some u else none)
    have nyz : y ≠ z := fun q => by
      subst q
      simp at ne3
    rw [lookup_put, lookup_put]
    by_cases h : f = y
    · rw [if_pos h, if_neg (fun q => nyz (h.symm.trans q)), if_pos h]
      exact rv
    · rw [if_neg h]
      by_cases h2 : f = z
      · rw [if_pos h2, if_pos h2]
        exact rv'
      · rw [if_neg h2, if_neg h2, if_neg h]
        exact True.intro
end
/-- of the program: its file's name, its names -/
structure ProgF (g : Gb) : Prop where
  X : g.K.In g.base
  G : g.base.Ns mainGlobals g.mg
  prog : g.P = PySem.Challenge.pw_logsapart_k55_whole_a_desk_of_one_store
theorem ProgF.top {g : Gb} (T : ProgF g) : (g.P.main.scope.names.lookup ("super" : Str)).isSome = false := by
  rw [T.prog]
  decide +kernel
section
variable {g : Gb}
theorem rBadText_of (T : ProgF g) (F : ExcF g.P g.K "BadText" "BadText.__init__" (inClass (topS 3) 0) "ValueError" "ValueError.__new__" "ValueError" "ValueError.__init__" ["at"]) (hm : g.mg "BadText" = some (.ref (He.ga g.K "BadText"))) (hs : g.mg "super" = none) : RaiseOk g "BadText" ["at"] :=
  raise_of (ys := ["at"]) ⟨T.X, T.G⟩ F PySem.F.excBase_ValueError PySem.XI.initVE rfl ⟨⟨_, rfl, rfl⟩, rfl, rfl, by decide +kernel, rfl, by decide +kernel, rfl, rfl, fun _ _ _ _ => rfl, fun _ _ _ _ => ⟨_, rfl⟩⟩ (fun us hl _ _ _ _ _ _ _ _ => match us, hl with | [_], _ => rfl) (by decide) (by decide) hm hs T.top fun cc CF => stores1 CF (F.no _ (by simp)) rfl rfl rfl rfl (by decide) fun _ _ => rfl
theorem rRefused_of (T : ProgF g) (F : ExcF g.P g.K "Refused" "Refused.__init__" (inClass (topS 4) 0) "ValueError" "ValueError.__new__" "ValueError" "ValueError.__init__" ["at"]) (hm : g.mg "Refused" = some (.ref (He.ga g.K "Refused"))) (hs : g.mg "super" = none) : RaiseOk g "Refused" ["at"] :=
  raise_of (ys := ["at"]) ⟨T.X, T.G⟩ F PySem.F.excBase_ValueError PySem.XI.initVE rfl ⟨⟨_, rfl, rfl⟩, rfl, rfl, by decide +kernel, rfl, by decide +kernel, rfl, rfl, fun _ _ _ _ => rfl, fun _ _ _ _ => ⟨_, rfl⟩⟩ (fun us hl _ _ _ _ _ _ _ _ => match us, hl with | [_], _ => rfl) (by decide) (by decide) hm hs T.top fun cc CF => stores1 CF (F.no _ (by simp)) rfl rfl rfl rfl (by decide) fun _ _ => rfl
theorem rNoHand_of (T : ProgF g) (F : ExcF g.P g.K "NoHand" "NoHand.__init__" (inClass (topS 7) 0) "LookupError" "LookupError.__new__" "KeyError" "KeyError.__init__" ["hand"]) (hm : g.mg "NoHand" = some (.ref (He.ga g.K "NoHand"))) (hs : g.mg "super" = none) : RaiseOk g "NoHand" ["hand"] :=
  raise_of (ys := ["hand"]) ⟨T.X, T.G⟩ F PySem.F.excBase_LookupError PySem.XI.initKE rfl ⟨⟨_, rfl, rfl⟩, rfl, rfl, by decide +kernel, rfl, by decide +kernel, rfl, rfl, fun _ _ _ _ => rfl, fun _ _ _ _ => ⟨_, rfl⟩⟩ (fun us hl _ _ _ _ _ _ _ _ => match us, hl with | [_], _ => rfl) (by decide) (by decide) hm hs T.top fun cc CF => stores1 CF (F.no _ (by simp)) rfl rfl rfl rfl (by decide) fun _ _ => rfl
theorem rNoTelling_of (T : ProgF g) (F : ExcF g.P g.K "NoTelling" "NoTelling.__init__" (inClass (topS 6) 0) "ValueError" "ValueError.__new__" "ValueError" "ValueError.__init__" ["top", "bottom"]) (hm : g.mg "NoTelling" = some (.ref (He.ga g.K "NoTelling"))) (hs : g.mg "super" = none) : RaiseOk g "NoTelling" ["top", "bottom"] :=
  raise_of (ys := ["top", "bottom"]) ⟨T.X, T.G⟩ F PySem.F.excBase_ValueError PySem.XI.initVE rfl ⟨⟨_, rfl, rfl⟩, rfl, rfl, by decide +kernel, rfl, by decide +kernel, rfl, rfl, fun _ _ _ _ => rfl, fun _ _ _ _ => ⟨_, rfl⟩⟩ (fun us hl _ _ _ _ _ _ _ _ => match us, hl with | [_, _], _ => rfl) (by decide) (by decide) hm hs T.top fun cc CF => stores2 CF (F.no _ (by simp)) (F.no _ (by simp)) rfl rfl rfl rfl (by decide) (by decide) rfl rfl rfl (fun _ _ => rfl) fun _ _ => rfl
end
end DL

set_option Elab.async false
set_option linter.all false
set_option maxRecDepth 100000
set_option maxHeartbeats 2000000
/-! # The end: a law that knows its guards, with tables of code objects -/
namespace DL
open PySem PySem.Spec PyProof.Rows L2
open LamX (TabB)
abbrev listO (vs : List Value) : Obj := { cls := .type "list", data := .seq vs.toArray }
/-- what is tracked at the call: the tables; the script, where the written part does not hold it -/
def callH (K : PySem.W.Frag) (tabs : List Addr) (a : Addr) (u : HO) : Hp := fun b => if b ∈ tabs then some (.tbl #[]) else if b = a ∧ K.lookup a = none then some u else none
section
variable {K : PySem.W.Frag} {tabs : List Addr} {a : Addr} {u : HO}
theorem callH_tab {b : Addr} (h : b ∈ tabs) : callH K tabs a u b = some (.tbl #[]) := if_pos h
theorem callH_other {b : Addr} (h : b ∉ tabs) (h2 : b ≠ a) : callH K tabs a u b = none := by
  unfold callH
  rw [if_neg h, if_neg fun z => h2 z.1]
theorem callH_some {b : Addr} {o : Obj} (h : a ∉ tabs) (hk : K.lookup a = some o) (hb : b ∉ tabs) : callH K tabs a u b = none := by
  unfold callH
  rw [if_neg hb, if_neg fun z => by
    have z2 := z.2
    rw [hk] at z2
    cases z2]
theorem callH_at (h : a ∉ tabs) (hk : K.lookup a = none) : callH K tabs a u a = some u := by
  unfold callH
  rw [if_neg h, if_pos ⟨rfl, hk⟩]
theorem callH_cases {b : Addr} {x : HO} (h : callH K tabs a u b = some x) : (b ∈ tabs ∧ x = .tbl #[]) ∨ (b ∉ tabs ∧ b = a ∧ K.lookup a = none ∧ x = u) := by
  unfold callH at h
  split at h
  · next hb =>
    cases h
    exact .inl ⟨hb, rfl⟩
  · next hb =>
    split at h
    · next h2 =>
      cases h
      exact .inr ⟨hb, h2.1, h2.2, rfl⟩
    · cases h
end
/-- the law's call, from the heap behind the top -/
theorem law_endG {P : Program} {w : World} {K : PySem.W.Frag} {mg mb : Str → Option Value} {k : Nat} {fa a : Addr} {cs : List (Addr × Addr)} {fd : FuncData} {x : Str} {sp : Sp} {s₁ : Shared} {vs : List Value} {ns : List Int}
    (KX : K.In s₁.heap) (hns : s₁.heap.Ns mainGlobals mg) (hb : s₁.heap.Ns builtinsNs mb) (hbb : ∀ x : Str, x ≠ "__name__" → mb x = bootBuiltins x) (hlim : s₁.heap.NoLimit) (hg : s₁.gens = #[])
    (hT : ∀ p ∈ cs, s₁.heap.get? p.2 = some emptyT) (nT : ∀ p ∈ cs, K.lookup p.2 = none) (hC : ∀ p ∈ cs, PySem.W.codeHdIn K p.1 p.2 = true)
    (hbm : ∃ (bm : Addr) (ob : Obj), mg "__builtins__" = some (.ref bm) ∧ bm ≠ builtinsNs ∧ s₁.heap.get? bm = some ob ∧ ob.cls = .type "module" ∧ ob.dict = some builtinsNs ∧ ob.data = .plain)
    (ha : s₁.heap.get? a = some (listO vs)) (hi : IntsAre vs ns) (hl : ns.length ≤ sizeLine) (hr : Room k callerA)
    (F : ∀ base : Heap, K.In base → base.Ns mainGlobals mg → (∀ p ∈ cs, TabB base mg p.1 p.2) → FnG P w K mg base k fa fd [x] sp) (hbind : ∀ (s : Shared) (u : Value), BindsTo s fd ⟨[u], []⟩ [(x, u)])
    (hsp : ∀ H : Hp, (∀ p ∈ cs, H p.2 = some (.tbl #[])) → (∀ b ps, H b = some (.tbl ps) → b ∈ cs.map (·.2)) → SqL K H a (ns.map V.int) → sp [.ref a] H (fun v _ => v = .bl true) fun _ _ _ => False) :
    codeAny (model P w) callerA (.call (.ref fa) ⟨[.ref a], []⟩) (fun r s' => r = .ok (.ret (.bool true)) ∧ OldK s₁.heap s'.heap ∧ s'.os = s₁.os ∧ AllBare s'.gens) s₁ := by
  have rv := vals_ints hi
  have lv : vs.length = ns.length := hi.length
  obtain ⟨tabs, etabs⟩ : ∃ tabs, tabs = cs.map (·.2) := ⟨_, rfl⟩
  have mT : ∀ p ∈ cs, p.2 ∈ tabs := fun p hp => by
    rw [etabs]
    exact List.mem_map.mpr ⟨p, hp, rfl⟩
  have inT : ∀ b, b ∈ tabs → ∃ p ∈ cs, p.2 = b := fun b hb => by
    rw [etabs] at hb
    obtain ⟨p, hp, e⟩ := List.mem_map.mp hb
    exact ⟨p, hp, e⟩
  have gT : ∀ b, b ∈ tabs → s₁.heap.get? b = some emptyT := fun b hb => by
    obtain ⟨p, hp, e⟩ := inT b hb
    rw [← e]
    exact hT p hp
  have aT : a ∉ tabs := fun z => by
    have q := gT a z
    rw [ha] at q
    cases q
  obtain ⟨u, eu⟩ : ∃ u : HO, u = .frz (listO vs) (.lst (ns.map V.int)) := ⟨_, rfl⟩
  obtain ⟨H, eH⟩ : ∃ H : Hp, H = callH K tabs a u := ⟨_, rfl⟩
  have Ht : ∀ b, b ∈ tabs → H b = some (.tbl #[]) := fun b hb => by
    rw [eH]
    exact callH_tab hb
  have Hc : ∀ b y, H b = some y → (b ∈ tabs ∧ y = .tbl #[]) ∨ (b ∉ tabs ∧ b = a ∧ K.lookup a = none ∧ y = u) := fun b y hy => by
    rw [eH] at hy
    exact callH_cases hy
  have free : ∀ b o, s₁.heap.get? b = some o → (∀ zs n, o.data ≠ .seq zs n) → o.data ≠ .fields #[] → H b = none := fun b o e n1 n2 => by
    cases q : H b with
    | none => rfl
    | some y =>
      exfalso
      rcases Hc b y q with ⟨h1, _⟩ | ⟨_, h1, _, _⟩
      · have z := gT b h1
        rw [e] at z
        cases z
        exact n2 rfl
      · rw [h1, ha] at e
        cases e
        exact n1 _ _ rfl
  have baseK : K.In (hidT s₁.heap H) := fun b o e => hidT_get (KX b o e) (by
    cases q : H b with
    | none => rfl
    | some y =>
      exfalso
      rcases Hc b y q with ⟨h1, _⟩ | ⟨_, h1, h2, _⟩
      · obtain ⟨p, hp, ep⟩ := inT b h1
        have z := nT p hp
        rw [ep, e] at z
        cases z
      · rw [h1, h2] at e
        cases e)
  have nsB : ∀ {b : Addr} {m : Str → Option Value}, s₁.heap.Ns b m → (hidT s₁.heap H).Ns b m := fun {b m} ⟨o, es, ep, e, d, r⟩ => ⟨o, es, ep, hidT_get e (free b o e (fun zs n z => by rw [d] at z; cases z) fun z => by rw [d] at z; cases z), d, r⟩
  have hM : L2.Mod K mg (hidT s₁.heap H) := ⟨baseK, nsB hns, ⟨mb, nsB hb, hbb⟩, let ⟨mc, h1, h2⟩ := hlim; ⟨mc, nsB h1, h2⟩⟩
  have TB : ∀ p ∈ cs, TabB (hidT s₁.heap H) mg p.1 p.2 := fun p hp => by
    refine ⟨PySem.W.codeHd_of_K baseK (hC p hp), ?_, fun z => ?_⟩
    · obtain ⟨bm, ob, b1, b2, b3, b4, b5, b6⟩ := hbm
      refine ⟨bm, ob, b1, b2, fun q => ?_, fun q => ?_, hidT_get b3 (free bm ob b3 (fun zs n z => by rw [b6] at z; cases z) fun z => by rw [b6] at z; cases z), b4, b5, b6⟩
      · obtain ⟨o, es, ep, e, d, _⟩ := hns
        rw [q, e] at b3
        cases b3
        rw [d] at b6
        cases b6
      · rw [q, hT p hp] at b3
        cases b3
        cases b6
    · obtain ⟨o, es, ep, e, d, _⟩ := hns
      rw [z, hT p hp] at e
      cases e
      cases d
  have hok : HOk P w H s₁.heap := fun b y e => by
    rcases Hc b y e with ⟨h1, rfl⟩ | ⟨_, h1, _, h3⟩
    · exact gT b h1
    · rw [h1, h3, eu]
      exact ⟨ha, by rw [List.length_map]; exact hl, vs, _, rv, ha⟩
  have e0 : Env0 P w K mg (hidT s₁.heap H) callerA [] s₁ H := ⟨rfl, hM, fun b o e => of_hidT e, Nat.le_of_eq (hidT_size _ _), trivial, fun b hb => absurd (show b ∈ ([] : List Addr) from hb) (by simp), hok, .of_eq hg⟩
  have hS : SqL K H a (ns.map V.int) := by
    cases hk : K.lookup a with
    | some o =>
      have z := KX a o hk
      rw [ha] at z
      cases z
      exact .inr ⟨_, vs.toArray, _, hk, rfl, rfl, rfl, by rw [List.size_toArray, lv]; exact hl, by simpa using rv⟩
    | none => exact .inl (.inr ⟨listO vs, by rw [eH, callH_at aT hk, eu]⟩)
  refine codeAny_mono ((F _ baseK (nsB hns) TB).run callerA [] s₁ H ⟨[.ref a], []⟩ [.ref a] [.ref a] _ _ hr rfl e0 (hbind s₁ (.ref a)) (.cons rfl .nil) (hsp H (fun p hp => Ht _ (mT p hp)) (fun b ps q => ?_) hS)) fun r s' h => ?_
  · rcases Hc b _ q with ⟨h1, _⟩ | ⟨_, _, _, h3⟩
    · rw [← etabs]
      exact h1
    · rw [eu] at h3
      cases h3
  cases r with
  | error e =>
    obtain ⟨_, _, _, _, _, _, _, _, _, _, _, _, z⟩ := h
    exact False.elim z
  | ok fl =>
    cases fl with
    | next => exact False.elim h
    | brk => exact False.elim h
    | cont => exact False.elim h
    | ret v =>
      obtain ⟨y, H', os, bare, un, hok', r', q⟩ := h
      have q : y = .bl true := q
      subst q
      obtain rfl : v = Value.bool true := r'
      have keep : ∀ b o, b ∉ tabs → s₁.heap.get? b = some o → s'.heap.get? b = some o := fun b o nb e => by
        cases q : H b with
        | none => exact un.keep b o e q (by intro z; exact absurd (show b ∈ ([] : List Addr) from z) (by simp)) (by simp)
        | some y =>
          rcases Hc b y q with ⟨h1, _⟩ | ⟨_, _, _, h3⟩
          · exact absurd h1 nb
          · rw [h3, eu] at q
            obtain ⟨e1, _⟩ := hok' b _ (un.frzs b _ _ q)
            obtain ⟨e2, _⟩ := hok b _ q
            rw [e2] at e
            cases e
            exact e1
      have more : ∀ b, b ∈ tabs → ∃ ms : Array Value, s'.heap.get? b = some { cls := .none, data := .fields ms } := fun b hb => by
        obtain ⟨ms, z⟩ := un.tbls b #[] (Ht b hb)
        exact ⟨_, hok' b _ z⟩
      refine ⟨rfl, ⟨fun b o e => ?_, fun b o e => ?_⟩, os, bare⟩
      · by_cases hb : b ∈ tabs
        · obtain ⟨ms, hm⟩ := more b hb
          obtain ⟨p, hp, ep⟩ := inT b hb
          have z := gT b hb
          rw [e] at z
          cases z
          rw [← ep] at hm ⊢
          exact .inr (.inl ⟨((PySem.W.codeHd_of_K KX (hC p hp)).tab (hT p hp)).isCodeTable, rfl, #[], ms, rfl, by rw [Array.empty_append]; exact hm⟩)
        · exact .inl (keep b o hb e)
      · by_cases hb : b ∈ tabs
        · obtain ⟨ms, hm⟩ := more b hb
          exact ⟨_, hm⟩
        · exact ⟨o, keep b o hb e⟩
/-- the walk of the law's row, from facts of the head -/
theorem walk_endG {l : PySem.W.OpenLaw} {n k : Nat} {q : Program} {loose : List Str} {XP : (Str → Option Value) → Heap → Prop} {YP : World → Heap → Prop} {d : DefRec} {x : Str} (hn : l.most = some n) (hn2 : n ≤ sizeLine) (hdf : d.params.defaults = []) (hr : Room k callerA)
    (F : ∀ (w : World) (mg : Str → Option Value) (fa : Addr) (h : Heap), YP w h → h.Ns mainGlobals mg → mg d.name = some (.ref fa) → ∃ (K : PySem.W.Frag) (fd : FuncData) (cs : List (Addr × Addr)) (sp : Sp), K.In h ∧ (∀ p ∈ cs, h.get? p.2 = some emptyT) ∧ (∀ p ∈ cs, K.lookup p.2 = none) ∧ (∀ p ∈ cs, PySem.W.codeHdIn K p.1 p.2 = true) ∧
      (∀ (s : Shared) (u : Value), BindsTo s fd ⟨[u], []⟩ [(x, u)]) ∧ (∀ (H : Hp) (a : Addr) (ns : List Int), (∀ p ∈ cs, H p.2 = some (.tbl #[])) → (∀ b ps, H b = some (.tbl ps) → b ∈ cs.map (·.2)) → SqL K H a (ns.map V.int) → sp [.ref a] H (fun v _ => v = .bl true) fun _ _ _ => False) ∧
      ∀ base : Heap, K.In base → base.Ns mainGlobals mg → (∀ p ∈ cs, TabB base mg p.1 p.2) → FnG l.prog w K mg base k fa fd [x] sp) : PySem.W.WalkO q loose XP YP l.row.toRowW d [] (fun f vs => PySem.call f vs) := by
  refine Att.attach_callB hn hdf fun w s₀ s₁ mg mb fa o pm cd doc a vs ns G Y ho hd hcd hmg hobj hints hlen hbits hg => ?_
  obtain ⟨K, fd, cs, sp, KX, hT, nT, hC, hb, hsp, hF⟩ := F w mg fa _ Y G.T.g hmg
  exact law_endG KX G.T.g G.T.b G.T.builtins G.T.nolimit hg hT nT hC G.T.bmain hobj hints (Nat.le_trans hlen hn2) hr hF hb fun H h1 h2 hS => hsp H a ns h1 h2 hS
end DL

set_option Elab.async false
set_option linter.all false
set_option maxRecDepth 100000
set_option maxHeartbeats 2000000
/-! # From the head's facts to the law -/
namespace DL
open PySem PySem.Spec PyProof.Rows L2
open He (ba eqO eqO_ok)
open LamX (TabB)
theorem reps_of {K : PySem.W.Frag} {F : Hp} {α : Type} {f : α → D} {v : α → V} (h : ∀ x, Rep K F (f x) (v x)) : ∀ l : List α, Reps K F (l.map f) (l.map v)
  | [] => rfl
  | x :: r => ⟨v x, r.map v, rfl, h x, reps_of h r⟩
theorem ne_of {w : World} {h : Heap} {K : PySem.W.Frag} (S : SaysM w h K) : He.tabOf K (He.codeOf K pB) ≠ He.tabOf K (He.codeOf K pX) := by
  obtain ⟨_, m⟩ := ba S.more
  obtain ⟨_, m⟩ := ba m
  obtain ⟨_, m⟩ := ba m
  obtain ⟨_, m⟩ := ba m
  obtain ⟨_, m⟩ := ba m
  obtain ⟨_, m⟩ := ba m
  obtain ⟨_, m⟩ := ba m
  obtain ⟨_, m⟩ := ba m
  obtain ⟨_, m⟩ := ba m
  obtain ⟨_, m⟩ := ba m
  obtain ⟨_, m⟩ := ba m
  obtain ⟨_, m⟩ := ba m
  obtain ⟨_, m⟩ := ba m
  have z : (!decide (He.tabOf K (He.codeOf K pB) = He.tabOf K (He.codeOf K pX))) = true := m
  intro e
  rw [decide_eq_true e] at z
  cases z
theorem tl_of {g : Gb} {w : World} {h : Heap} (hP : g.P = theP) (S : SaysM w h g.K) (X : g.K.In g.base) (G : g.base.Ns mainGlobals g.mg) (TB : ∀ p ∈ tfM, TabB g.base g.mg (He.cT g.K p).1 (He.cT g.K p).2) : Tl g := by
  have c : He.SaysD faL fnL g.K := S.t.d
  obtain ⟨m1, m⟩ := ba S.more
  obtain ⟨m2, m⟩ := ba m
  obtain ⟨m3, m⟩ := ba m
  obtain ⟨m4, m⟩ := ba m
  obtain ⟨m5, m⟩ := ba m
  obtain ⟨m6, m⟩ := ba m
  obtain ⟨m7, m⟩ := ba m
  obtain ⟨m8, m⟩ := ba m
  obtain ⟨m9, m⟩ := ba m
  obtain ⟨m10, m⟩ := ba m
  obtain ⟨m11, m⟩ := ba m
  obtain ⟨m12, m⟩ := ba m
  obtain ⟨m13, m14⟩ := ba m
  have ini : ∀ (i : Nat) x q st, xcs[i]? = some (x, q, st) → obsI g.K x = valI q st := fun i x q st hi => by
    have e := S.ini
    have e2 : (xcs.map fun x => obsI g.K x.1)[i]? = (xcs.map fun x => valI x.2.1 x.2.2)[i]? := by rw [e]
    rw [List.getElem?_map, List.getElem?_map, hi] at e2
    exact Option.some.inj e2
  have PF : ProgF g := ⟨X, G, hP⟩
  have f1 : ExcF g.P g.K "BadText" "BadText.__init__" (inClass (topS 3) 0) "ValueError" "ValueError.__new__" "ValueError" "ValueError.__init__" ["at"] := excB_ok (fun _ => veB_ok) (ini 0 _ _ _ rfl) (by rw [hP]; exact m1)
  have f2 : ExcF g.P g.K "Refused" "Refused.__init__" (inClass (topS 4) 0) "ValueError" "ValueError.__new__" "ValueError" "ValueError.__init__" ["at"] := excB_ok (fun _ => veB_ok) (ini 1 _ _ _ rfl) (by rw [hP]; exact m2)
  have f3 : ExcF g.P g.K "NoTelling" "NoTelling.__init__" (inClass (topS 6) 0) "ValueError" "ValueError.__new__" "ValueError" "ValueError.__init__" ["top", "bottom"] := excB_ok (fun _ => veB_ok) (ini 2 _ _ _ rfl) (by rw [hP]; exact m3)
  have f4 : ExcF g.P g.K "NoHand" "NoHand.__init__" (inClass (topS 7) 0) "LookupError" "LookupError.__new__" "KeyError" "KeyError.__init__" ["hand"] := excB_ok (fun _ => keB_ok) (ini 3 _ _ _ rfl) (by rw [hP]; exact m4)
  have hs : g.mg "super" = none := He.free_ok X G (c.fact 90 (f := .free "super") rfl)
  have b : Tb g := ⟨X, G, c, rBadText_of PF f1 (He.glo_ok X G (c.fact 63 (f := .glo "BadText") rfl)) hs, rRefused_of PF f2 (He.glo_ok X G (c.fact 64 (f := .glo "Refused") rfl)) hs, rNoTelling_of PF f3 (He.glo_ok X G (c.fact 66 (f := .glo "NoTelling") rfl)) hs, rNoHand_of PF f4 (He.glo_ok X G (c.fact 67 (f := .glo "NoHand") rfl)) hs⟩
  have t : Tx g := ⟨b, xfB_ok m5, xfB_ok m6, f1.no _ List.mem_cons_self, f3.no _ List.mem_cons_self, f3.no _ (List.mem_cons_of_mem _ List.mem_cons_self), of_decide_eq_true m7, of_decide_eq_true m8, of_decide_eq_true m9, of_decide_eq_true m10, of_decide_eq_true m11,
    ⟨He.ga g.K "PLAIN", PySem.W.mg_of X G (eqO_ok m12), fun F => ⟨_, _, rfl, He.tupB_ok m13 F, by
      rw [List.map_map]
      exact reps_of (f := D.str) (v := V.str) (fun _ => rfl) plains⟩⟩⟩
  exact ⟨t, TB pB List.mem_cons_self, TB pX (List.mem_cons_of_mem _ List.mem_cons_self), ne_of S⟩
/-- the memory at the law's call -/
def memT (g : Gb) : Mem := fun a => if a = tB g then some (.tab ((("_law_bad_lines_right" : Str) ++ ".<locals>.") ++ "<lambda>")) else if a = tX g then some (.tab ((("_law_texts_right" : Str) ++ ".<locals>.") ++ "<lambda>")) else none
theorem memT_tabs {g : Gb} (ne : tB g ≠ tX g) : TabsM g (memT g) := fun a q => by
  unfold memT TTs
  rw [List.mem_cons, List.mem_singleton]
  constructor
  · intro h
    split at h
    · next e =>
      subst e
      cases h
      exact .inl rfl
    · split at h
      · next e =>
        subst e
        cases h
        exact .inr rfl
      · cases h
  · rintro (h | h)
    · cases h
      exact if_pos rfl
    · cases h
      rw [if_neg (Ne.symm ne), if_pos rfl]
theorem sto_start {g : Gb} {H : Hp} (ne : tB g ≠ tX g) (h1 : H (tB g) = some (.tbl #[])) (h2 : H (tX g) = some (.tbl #[])) (hF : ∀ b ps, H b = some (.tbl ps) → b = tB g ∨ b = tX g) :
    ∃ F, Evl.Ex F H ∧ Sto g.K F (memT g) H ∧ ∀ b y, H b = some y → (∀ ps, y ≠ .tbl ps) → F b = some y := by
  classical
  refine ⟨fun b => if b = tB g ∨ b = tX g then none else H b, fun b y e => ?_, ⟨fun b y e => ?_, fun b m e => ?_, fun b ps e => ?_⟩, fun b y e n => ?_⟩
  · have e : (if b = tB g ∨ b = tX g then none else H b) = some y := e
    split at e
    · cases e
    · exact e
  · have e : (if b = tB g ∨ b = tX g then none else H b) = some y := e
    split at e
    · cases e
    · exact e
  · have key : ∀ {b : Addr} {q : Str} {F : Hp}, H b = some (.tbl #[]) → TabD F H b q := fun hb => ⟨#[], hb, by first | trivial | decide | exact True.intro | simp [TriplesOk], fun pos cv hc => by
      first
        | (simp [codeAmong] at hc)
        | cases hc⟩
    unfold memT at e
    split at e
    · next h =>
      subst h
      cases e
      exact ⟨if_pos (.inl rfl), key h1⟩
    · split at e
      · next h =>
        subst h
        cases e
        exact ⟨if_pos (.inr rfl), key h2⟩
      · cases e
  · have e : (if b = tB g ∨ b = tX g then none else H b) = some (.tbl ps) := e
    split at e
    · cases e
    · next h => exact h (hF b ps e)
  · show (if b = tB g ∨ b = tX g then none else H b) = some y
    rw [if_neg]
    · exact e
    · rintro (h | h)
      · rw [h, h1] at e
        cases e
        exact n _ rfl
      · rw [h, h2] at e
        cases e
        exact n _ rfl
theorem law_sp {g : Gb} (ne : tB g ≠ tX g) {H : Hp} {a : Addr} {ns : List Int} (h1 : ∀ p ∈ tfM.map (He.cT g.K), H p.2 = some (.tbl #[])) (h2 : ∀ b ps, H b = some (.tbl ps) → b ∈ (tfM.map (He.cT g.K)).map (·.2)) (hS : SqL g.K H a (ns.map V.int)) : Lsp g (sp_law g) [.ref a] H (fun v _ => v = .bl true) fun _ _ _ => False := by
  obtain ⟨F, e, st, k⟩ := sto_start ne (h1 (He.cT g.K pB) List.mem_cons_self) (h1 (He.cT g.K pX) (List.mem_cons_of_mem _ List.mem_cons_self)) fun b ps q => by
    have z := h2 b ps q
    have z : b ∈ [tB g, tX g] := z
    rcases List.mem_cons.mp z with z | z
    · exact .inl z
    · exact .inr (List.mem_singleton.mp z)
  have hS2 : SqL g.K F a (ns.map V.int) := by
    rcases hS with (q | ⟨o, q⟩) | q
    · exact .inl (.inl (k a _ q fun ps z => by cases z))
    · exact .inl (.inr ⟨o, k a _ q fun ps z => by cases z⟩)
    · exact .inr q
  refine ⟨F, memT g, [.fro (ns.map D.int)], fun d _ => d = .bl true, fun _ _ _ _ => False, st, .cons ⟨a, _, rfl, hS2, reps_of (f := D.int) (v := V.int) (fun _ => rfl) ns⟩ .nil, ⟨ns, rfl, memT_tabs ne, fun _ => rfl⟩, fun d M' q F' v H' _ _ r => ?_, fun C ns xs M' z => z.elim⟩
  subst q
  exact r
end DL
open PySem PySem.W PySem.Calls PyProof.Rows
theorem PySem.Challenge.cw_logsapart_k55_whole_a_desk_of_one_store_holds : PySem.Challenge.rw_logsapart_k55_whole_a_desk_of_one_store.Holds := by
  w_on; o_law
  refine HandSHeadRun.head_any (r := DL.theR) (q := view DL.theR.prog [92]) (H := DL.hookM 5) (ob := DL.obM) (M := 20000) (loose := DL.looseN) (d := HandSHeadRun.topDef DL.theR.prog 92) (kwd := []) DL.obM_eq
    (by kernel_rfl) (fun s => by kernel_rfl) DL.runM (by kernel_rfl) (by kernel_rfl) (by kernel_rfl) (by rfl) (by first | assumption | decide +kernel) (by decide +kernel) ⟨rfl, rfl, rfl, rfl, rfl, by decide +kernel⟩ ?hw ?hc
  case hw => w_witness2
  case hc =>
    refine DL.walk_endG (l := PySem.Challenge.rw_logsapart_k55_whole_a_desk_of_one_store) (n := 63) (k := 16) (x := "_law_script") rfl (by decide) (by kernel_rfl) ⟨rfl, by decide, by decide⟩ ?F
    intro w mg fa h Y G hmg0
    obtain ⟨K, KX, S⟩ := Y
    have hmg : mg ("law" : PySem.Str) = some (.ref fa) := by
      have e : (HandSHeadRun.topDef DL.theR.prog 92).name = ("law" : PySem.Str) := by kernel_rfl
      rw [← e]
      exact hmg0
    have el : mg ("law" : PySem.Str) = some (.ref (He.ga K "law")) := He.glo_ok KX G (S.t.d.fact 60 (f := .glo "law") rfl)
    have efa : fa = He.ga K "law" := by
      rw [hmg] at el
      cases el
      rfl
    obtain ⟨fd, FD⟩ := S.t.d.def_ 73 (d := DL.dd "law" none "law" "law" (DL.topS 92)) rfl
    have b := L2.FunD.bindsA (ps := ["_law_script"]) FD fun _ _ _ _ _ _ us hl => match us, hl with | [_], _ => rfl
    have all : ∀ base : PySem.Heap, K.In base → base.Ns mainGlobals mg → (∀ p ∈ DL.tfM.map (He.cT K), LamX.TabB base mg p.1 p.2) → DL.Tl ⟨DL.theP, w, K, mg, base⟩ := fun base X Gb TB =>
      DL.tl_of (g := ⟨DL.theP, w, K, mg, base⟩) (w := w) (h := h) rfl S X Gb fun p hp => TB _ (List.mem_map_of_mem hp)
    refine ⟨K, fd, DL.tfM.map (He.cT K), DL.Lsp ⟨DL.theP, w, K, mg, h⟩ (DL.sp_law ⟨DL.theP, w, K, mg, h⟩), KX, fun p hp => ?_, fun p hp => ?_, fun p hp => ?_, fun s u => b s [u] rfl, fun H a ns h1 h2 hS => ?_, fun base X Gb TB => ?_⟩
    · obtain ⟨q, hq, rfl⟩ := List.mem_map.mp hp
      exact S.empty q hq
    · obtain ⟨q, hq, rfl⟩ := List.mem_map.mp hp
      exact S.out q hq
    · obtain ⟨q, hq, rfl⟩ := List.mem_map.mp hp
      exact S.hd q hq
    · exact DL.law_sp (g := ⟨DL.theP, w, K, mg, h⟩) (DL.ne_of S) h1 h2 hS
    · rw [efa]
      exact DL.fok_law (g := ⟨DL.theP, w, K, mg, base⟩) (all base X Gb TB) (He5.fun_of FD)
