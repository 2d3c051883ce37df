import PyProof.Rows.All
import Wide.All
import OpenK.AllK
import Wide.FinOn
import HandS.ForMost
import HandS.Exc
import HandS.TryOnly
import HandS.ExcOwn
import HandS.CallSlots
import HandS.TupAny
import HandS.IsInst
import HandS.Defaults
import HandS.WordsExc
import HandS.ExcInit
import HandS.ExcField
import HandS.ExcIs
import HandS.AnyAll
import PyProof.ReprReads
import PyProof.ReprRoads
import KE.DataEq
import KE.KExcIs
import HandS.DictEq
import HandS.HeadHook1
import PyProof.NeKinds
import KE.KEqDict
import HandS.Dict
import KE.GoesEnum
import HandS.Iter
import HandS.Head0
import HandS.Head1
import HandS.Head2
import HandS.HeadEnd
import HandS.HeadHook2
import HandS.JoinGen
import HandS.HeadHook4
import PyProof.TupleOfGen
import PyProof.WalksMore
import HandS.HeadWalk
import HandS.Codes
import HandS.HeadHook3
import HandS.EndBits
import HandS.RaiseMore
import PyProof.InstNe
import PySem.Challenge.RW_trulymade_k07_bodies_there_and_back
set_option Elab.async false
set_option linter.all false
set_option maxRecDepth 100000
set_option maxHeartbeats 0
/-! Part A: data values, what they stand for in the abstract heap, footprints. -/
namespace VM
open PySem PySem.Spec PyProof.Rows L2

/-- deep data; o: owned (true), or never changed again (false); scr: a list that is read alone -/
inductive D where
  | non | bl (b : Bool) | int (i : Int) | str (x : Str)
  | tup (xs : List D)
  | lst (o : Bool) (xs : List D)
  | scr (xs : List D)
  | dct (o : Bool) (ks : List D) (vs : List D)
  | ins (o : Bool) (c : Str) (ns : List Str) (fs : List D)
  | err (n : Nat) (e : D)

/-- a footprint: cells -/
abbrev Fp := List (Addr × HO)
def InH (L : Fp) (H : Hp) : Prop := ∀ p ∈ L, H p.1 = some p.2
def ND (L : Fp) : Prop := (L.map (·.1)).Nodup
def Out (L : Fp) (H : Hp) : Prop := ∀ p ∈ L, H p.1 = none

/-- what is known of a class of the text whose instances are data -/
structure ClsK (K : PySem.W.Frag) (c : Str) : Prop where
  cl : Cls K (He.ga K c)
  ha : PySem.W.findIn K (.ref (He.ga K c)) "__class__" = some (some (.builtin "object.__class__"))
  hn : PySem.W.specialIn K (.builtin "object.__class__") "__get__" = some (some (.builtin "getset_descriptor.__get__"))
  ht : PySem.W.takesIn K (.builtin "object.__class__") = some true
  hm : PySem.W.mroIn K (He.ga K c) (.type "object") = some true
  ki : ∀ t ∈ ["int", "bool", "str", "list", "tuple", "dict"], PySem.W.kitOne K (.ref (He.ga K c)) (.type t) = some false
  ne : PySem.W.findIn K (.ref (He.ga K c)) "__ne__" = some (some (.builtin "object.__ne__"))
/-- what isinstance asks of an error's class -/
structure ExIs (K : PySem.W.Frag) (C : Addr) : Prop where
  cls : (PySem.W.clsIn K C).isSome = true
  at_ : PySem.W.findIn K (.ref C) "__class__" = some (some (.builtin "object.__class__"))
  get : PySem.W.specialIn K (.builtin "object.__class__") "__get__" = some (some (.builtin "getset_descriptor.__get__"))
  tak : PySem.W.takesIn K (.builtin "object.__class__") = some true
  mro : PySem.W.mroIn K C (.type "object") = some true
  val : PySem.W.kitOne K (.ref C) (.type "ValueError") = some true
  ki : ∀ t ∈ ["int", "bool", "str", "list", "tuple", "dict"], PySem.W.kitOne K (.ref C) (.type t) = some false
def exIsB (K : PySem.W.Frag) (C : Addr) : Bool := (PySem.W.clsIn K C).isSome && (decide (PySem.W.findIn K (.ref C) "__class__" = some (some (.builtin "object.__class__"))) && (decide (PySem.W.specialIn K (.builtin "object.__class__") "__get__" = some (some (.builtin "getset_descriptor.__get__"))) &&
  (decide (PySem.W.takesIn K (.builtin "object.__class__") = some true) && (decide (PySem.W.mroIn K C (.type "object") = some true) && (decide (PySem.W.kitOne K (.ref C) (.type "ValueError") = some true) && (["int", "bool", "str", "list", "tuple", "dict"] : List String).all fun t => decide (PySem.W.kitOne K (.ref C) (.type t) = some false))))))
theorem exIsB_ok {K : PySem.W.Frag} {C : Addr} (h : exIsB K C = true) : ExIs K C := by
  unfold exIsB at h
  simp only [Bool.and_eq_true, decide_eq_true_eq] at h
  obtain ⟨h1, h2, h3, h4, h5, h6, h7⟩ := h
  exact ⟨h1, h2, h3, h4, h5, h6, fun t ht => of_decide_eq_true (List.all_eq_true.mp h7 t ht)⟩
/-- the names of the errors; the first is over all others -/
def erns : List Str := ["MadeError", "BadName", "BadRow", "BadThing", "BadForm", "BadSign", "BadRule", "BadText", "BadParts", "BadOthers", "BadCount", "BadBook", "BadFlag", "BadPlace", "BadClaim", "BadWorld", "BadKept", "BadWord", "NoPaper", "BadPlanned", "BadClaims", "Clashes", "TooMany", "TooLong", "Finished", "NothingDone"]
def ern (n : Nat) : Str := erns.getD n ""
/-- what is known of the class of an error that is held as a value -/
structure ErK (K : PySem.W.Frag) (C : Addr) : Prop where
  xf : XfC K C
  no : PySem.W.findIn K (.ref C) "value" = some none
  is : ExIs K C
mutual
/-- v stands for d: what is owned at L, the rest in the frozen part F -/
def Own (K : PySem.W.Frag) (F : Hp) : D → V → Fp → Prop
  | .non, v, L => v = .non ∧ L = []
  | .bl b, v, L => v = .bl b ∧ L = []
  | .int i, v, L => v = .int i ∧ L = []
  | .str x, v, L => v = .str x ∧ L = []
  | .tup ds, v, L => L = [] ∧ ∃ a vs, v = .ref a ∧ SqT K F a vs ∧ OwnL K F ds vs []
  | .scr ds, v, L => L = [] ∧ ∃ a vs, v = .ref a ∧ SqL K F a vs ∧ OwnL K F ds vs []
  | .lst false ds, v, L => L = [] ∧ ∃ a vs, v = .ref a ∧ F a = some (.lst vs) ∧ OwnL K F ds vs []
  | .lst true ds, v, L => ∃ a vs L', v = .ref a ∧ L = (a, .lst vs) :: L' ∧ OwnL K F ds vs L'
  | .dct o ks us, v, L => o = false ∧ ks = [] ∧ us = [] ∧ L = [] ∧ ∃ a, v = .ref a ∧ F a = some (.dK [])
  | .ins false c ns ds, v, L => ClsK K c ∧ L = [] ∧ ∃ a dx vs, v = .ref a ∧ F a = some (.ins (He.ga K c) dx (ns.zip vs)) ∧ F dx = some (.own a) ∧ ns.length = vs.length ∧ OwnL K F ds vs []
  | .ins true c ns ds, v, L => ClsK K c ∧ ∃ a dx vs L', v = .ref a ∧ L = (a, .ins (He.ga K c) dx (ns.zip vs)) :: (dx, .own a) :: L' ∧ ns.length = vs.length ∧ OwnL K F ds vs L'
  | .err n e, v, L => L = [] ∧ ErK K (He.ga K (ern n)) ∧ ∃ a dx u, v = .ref a ∧ F a = some (exo a (He.ga K (ern n)) (some dx)) ∧ F dx = some (exd dx [(("value" : Str), u)]) ∧ Own K F e u []
def OwnL (K : PySem.W.Frag) (F : Hp) : List D → List V → Fp → Prop
  | [], vs, L => vs = [] ∧ L = []
  | d :: ds, vs, L => ∃ v r L1 L2, vs = v :: r ∧ L = L1 ++ L2 ∧ Own K F d v L1 ∧ OwnL K F ds r L2
end

mutual
/-- nothing in it is owned -/
def D.fz : D → Bool
  | .tup _ => true
  | .scr _ => true
  | .lst o _ => !o
  | .dct o _ _ => !o
  | .ins o _ _ _ => !o
  | _ => true
end

theorem SqT_mono {K : PySem.W.Frag} {H H' : Hp} {a : Addr} {xs : List V} (e : Same H H') (h : SqT K H a xs) : SqT K H' a xs := by
  rcases h with (h | ⟨o, h⟩) | h
  · exact .inl (.inl (e _ _ h))
  · exact .inl (.inr ⟨o, e _ _ h⟩)
  · exact .inr h

section
variable {K : PySem.W.Frag} {F F' : Hp}
mutual
theorem Own.mono (e : Same F F') : ∀ (d : D) (v : V) (L : Fp), Own K F d v L → Own K F' d v L
  | .non, _, _, h => h
  | .bl _, _, _, h => h
  | .int _, _, _, h => h
  | .str _, _, _, h => h
  | .tup ds, _, _, h => by
    obtain ⟨h1, a, vs, h2, h3, h4⟩ := h
    exact ⟨h1, a, vs, h2, SqT_mono e h3, OwnL.mono e ds _ _ h4⟩
  | .scr ds, _, _, h => by
    obtain ⟨h1, a, vs, h2, h3, h4⟩ := h
    exact ⟨h1, a, vs, h2, e.seq h3, OwnL.mono e ds _ _ h4⟩
  | .lst false ds, _, _, h => by
    obtain ⟨h1, a, vs, h2, h3, h4⟩ := h
    exact ⟨h1, a, vs, h2, e _ _ h3, OwnL.mono e ds _ _ h4⟩
  | .lst true ds, _, _, h => by
    obtain ⟨a, vs, L', h1, h2, h4⟩ := h
    exact ⟨a, vs, L', h1, h2, OwnL.mono e ds _ _ h4⟩
  | .dct _ _ _, _, _, h => by
    obtain ⟨h1, h2, h3, h4, a, h5, h6⟩ := h
    exact ⟨h1, h2, h3, h4, a, h5, e _ _ h6⟩
  | .ins false c ns ds, _, _, h => by
    obtain ⟨h0, h1, a, dx, vs, h2, h3, h4, h5, h6⟩ := h
    exact ⟨h0, h1, a, dx, vs, h2, e _ _ h3, e _ _ h4, h5, OwnL.mono e ds _ _ h6⟩
  | .ins true c ns ds, _, _, h => by
    obtain ⟨h0, a, dx, vs, L', h1, h2, h5, h6⟩ := h
    exact ⟨h0, a, dx, vs, L', h1, h2, h5, OwnL.mono e ds _ _ h6⟩
  | .err n d, _, _, h => by
    obtain ⟨h0, h1, a, dx, u, h2, h3, h4, h5⟩ := h
    exact ⟨h0, h1, a, dx, u, h2, e _ _ h3, e _ _ h4, Own.mono e d _ _ h5⟩
theorem OwnL.mono (e : Same F F') : ∀ (ds : List D) (vs : List V) (L : Fp), OwnL K F ds vs L → OwnL K F' ds vs L
  | [], _, _, h => h
  | d :: ds, _, _, h => by
    obtain ⟨v, r, L1, L2, h1, h2, h3, h4⟩ := h
    exact ⟨v, r, L1, L2, h1, h2, Own.mono e d _ _ h3, OwnL.mono e ds _ _ h4⟩
end
theorem Own.fz_nil : ∀ {d : D} {v : V} {L : Fp}, d.fz = true → Own K F d v L → L = []
  | .non, _, _, _, h => h.2
  | .bl _, _, _, _, h => h.2
  | .int _, _, _, _, h => h.2
  | .str _, _, _, _, h => h.2
  | .tup ds, _, _, _, h => h.1
  | .scr ds, _, _, _, h => h.1
  | .lst false ds, _, _, _, h => h.1
  | .lst true ds, _, _, z, _ => by cases z
  | .dct _ _ _, _, _, _, h => h.2.2.2.1
  | .ins false _ _ _, _, _, _, h => h.2.1
  | .ins true _ _ _, _, _, z, _ => by cases z
  | .err _ _, _, _, _, h => h.1
end
/-- nothing in any of them is owned -/
def fzL (ds : List D) : Bool := ds.all D.fz
theorem OwnL.fz_nil {K : PySem.W.Frag} {F : Hp} : ∀ {ds : List D} {vs : List V} {L : Fp}, fzL ds = true → OwnL K F ds vs L → L = []
  | [], _, _, _, h => h.2
  | d :: ds, _, _, z, h => by
    obtain ⟨v, r, L1, L2, h1, h2, h3, h4⟩ := h
    obtain ⟨z1, z2⟩ := Bool.and_eq_true_iff.mp (show (d.fz && fzL ds) = true from z)
    rw [h2, Own.fz_nil z1 h3, OwnL.fz_nil z2 h4] <;> rfl
theorem OwnL.length {K : PySem.W.Frag} {F : Hp} : ∀ {ds : List D} {vs : List V} {L : Fp}, OwnL K F ds vs L → ds.length = vs.length
  | [], _, _, h => by rw [h.1] <;> rfl
  | d :: ds, _, _, h => by
    obtain ⟨v, r, L1, L2, h1, h2, h3, h4⟩ := h
    rw [h1, List.length_cons, List.length_cons, OwnL.length h4]
/-- the i-th -/
theorem OwnL.get {K : PySem.W.Frag} {F : Hp} : ∀ {ds : List D} {vs : List V} {L : Fp} {i : Nat} {d : D}, OwnL K F ds vs L → ds[i]? = some d → ∃ v L1, vs[i]? = some v ∧ List.Sublist L1 L ∧ Own K F d v L1
  | [], _, _, _, _, _, e => by simp at e
  | d :: ds, _, _, 0, d', h, e => by
    obtain ⟨v, r, L1, L2, h1, h2, h3, h4⟩ := h
    have e' : d = d' := by simpa using e
    subst e' h1 h2
    exact ⟨v, L1, rfl, List.sublist_append_left _ _, h3⟩
  | d :: ds, _, _, i + 1, d', h, e => by
    obtain ⟨v, r, L1, L2, h1, h2, h3, h4⟩ := h
    subst h1 h2
    obtain ⟨v', L', e1, e2, e3⟩ := OwnL.get (i := i) (d := d') h4 (by simpa using e)
    exact ⟨v', L', by simpa using e1, e2.trans (List.sublist_append_right _ _), e3⟩
theorem OwnL.append {K : PySem.W.Frag} {F : Hp} : ∀ {ds es : List D} {vs us : List V} {L M : Fp}, OwnL K F ds vs L → OwnL K F es us M → OwnL K F (ds ++ es) (vs ++ us) (L ++ M)
  | [], _, _, _, _, _, h, h' => by
    obtain ⟨rfl, rfl⟩ := h
    exact h'
  | d :: ds, _, _, _, _, _, h, h' => by
    obtain ⟨v, r, L1, L2, rfl, rfl, h3, h4⟩ := h
    exact ⟨v, _, L1, _, rfl, List.append_assoc _ _ _, h3, OwnL.append h4 h'⟩
theorem OwnL.take {K : PySem.W.Frag} {F : Hp} : ∀ {ds : List D} {vs : List V} (n : Nat), OwnL K F ds vs [] → OwnL K F (ds.take n) (vs.take n) []
  | _, _, 0, _ => ⟨rfl, rfl⟩
  | [], _, _ + 1, h => by
    obtain ⟨rfl, _⟩ := h
    exact ⟨rfl, rfl⟩
  | d :: ds, _, n + 1, h => by
    obtain ⟨v, r, L1, L2, rfl, e, h3, h4⟩ := h
    obtain ⟨rfl, rfl⟩ := List.append_eq_nil_iff.mp e.symm
    exact ⟨v, _, [], [], rfl, rfl, h3, OwnL.take n h4⟩
theorem OwnL.drop {K : PySem.W.Frag} {F : Hp} : ∀ {ds : List D} {vs : List V} (n : Nat), OwnL K F ds vs [] → OwnL K F (ds.drop n) (vs.drop n) []
  | _, _, 0, h => h
  | [], _, _ + 1, h => by
    obtain ⟨rfl, _⟩ := h
    exact ⟨rfl, rfl⟩
  | d :: ds, _, n + 1, h => by
    obtain ⟨v, r, L1, L2, rfl, e, h3, h4⟩ := h
    obtain ⟨rfl, rfl⟩ := List.append_eq_nil_iff.mp e.symm
    exact OwnL.drop n h4

/-! ### the state -/
/-- no table -/
def NT (o : HO) : Prop := ∀ ps, o ≠ .tbl ps
structure Ok (F : Hp) (L : Fp) (H : Hp) : Prop where
  fH : Same F H
  inH : InH L H
  nd : ND L
  dj : Out L F
  nt : ∀ p ∈ L, NT p.2
  ntF : ∀ a o, F a = some o → NT o
structure Step (F : Hp) (L : Fp) (H F' : Hp) (L' : Fp) (H' : Hp) : Prop where
  ok : Ok F' L' H'
  ff : Same F F'
  keep : ∀ a o, H a = some o → NT o → (∀ p ∈ L, p.1 ≠ a) → H' a = some o
  fresh : ∀ p ∈ L', (∃ q ∈ L, q.1 = p.1) ∨ H p.1 = none
  freshF : ∀ a o, F' a = some o → F a = some o ∨ (∃ q ∈ L, q.1 = a) ∨ H a = none
  dom : ∀ a, H' a = none → H a = none
  tab : ∀ P, GxR.TabG H P → GxR.TabG H' P
theorem Step.refl {F : Hp} {L : Fp} {H : Hp} (o : Ok F L H) : Step F L H F L H :=
  ⟨o, fun _ _ h => h, fun _ _ h _ _ => h, fun p hp => .inl ⟨p, hp, rfl⟩, fun _ _ h => .inl h, fun _ h => h, fun _ h => h⟩
/-- L' is a part of L -/
theorem Ok.sub {F : Hp} {L L' : Fp} {H : Hp} (o : Ok F L H) (s : List.Sublist L' L) : Ok F L' H :=
  ⟨o.fH, fun p hp => o.inH p (s.mem hp), List.Pairwise.sublist (List.Sublist.map _ s) o.nd, fun p hp => o.dj p (s.mem hp), fun p hp => o.nt p (s.mem hp), o.ntF⟩
theorem Ok.perm {F : Hp} {L L' : Fp} {H : Hp} (o : Ok F L H) (s : L'.Perm L) : Ok F L' H :=
  ⟨o.fH, fun p hp => o.inH p (s.mem_iff.mp hp), (s.map _).nodup_iff.mpr o.nd, fun p hp => o.dj p (s.mem_iff.mp hp), fun p hp => o.nt p (s.mem_iff.mp hp), o.ntF⟩
theorem Step.sub {F F' : Hp} {L L' L'' : Fp} {H H' : Hp} (s : Step F L H F' L' H') (t : List.Sublist L'' L') : Step F L H F' L'' H' :=
  ⟨s.ok.sub t, s.ff, s.keep, fun p hp => s.fresh p (t.mem hp), s.freshF, s.dom, s.tab⟩
theorem Step.perm {F F' : Hp} {L L' L'' : Fp} {H H' : Hp} (s : Step F L H F' L' H') (t : L''.Perm L') : Step F L H F' L'' H' :=
  ⟨s.ok.perm t, s.ff, s.keep, fun p hp => s.fresh p (t.mem_iff.mp hp), s.freshF, s.dom, s.tab⟩
/-- the step's own start, permuted or with more in it -/
theorem Step.from {F F' : Hp} {L M L' : Fp} {H H' : Hp} (s : Step F L H F' L' H') (t : ∀ p ∈ L, p ∈ M) : Step F M H F' L' H' :=
  ⟨s.ok, s.ff, fun a o h z n => s.keep a o h z fun p hp => n p (t p hp), fun p hp => (s.fresh p hp).imp (fun ⟨q, hq, e⟩ => ⟨q, t q hq, e⟩) id, fun a o h => (s.freshF a o h).imp id (Or.imp (fun ⟨q, hq, e⟩ => ⟨q, t q hq, e⟩) id), s.dom, s.tab⟩
theorem ND.append {A B : Fp} : ND (A ++ B) ↔ ND A ∧ ND B ∧ ∀ p ∈ A, ∀ q ∈ B, p.1 ≠ q.1 := by
  unfold ND
  rw [List.map_append, List.nodup_append]
  constructor
  · rintro ⟨h1, h2, h3⟩
    exact ⟨h1, h2, fun p hp q hq => h3 _ (List.mem_map_of_mem hp) _ (List.mem_map_of_mem hq)⟩
  · rintro ⟨h1, h2, h3⟩
    refine ⟨h1, h2, fun a ha b hb => ?_⟩
    obtain ⟨p, hp, rfl⟩ := List.mem_map.mp ha
    obtain ⟨q, hq, rfl⟩ := List.mem_map.mp hb
    exact h3 p hp q hq
theorem Ok.left {F : Hp} {A B : Fp} {H : Hp} (o : Ok F (A ++ B) H) : Ok F A H := o.sub (List.sublist_append_left _ _)
theorem Ok.right {F : Hp} {A B : Fp} {H : Hp} (o : Ok F (A ++ B) H) : Ok F B H := o.sub (List.sublist_append_right _ _)
/-- one step, then a step of a part A of what is owned; B stays -/
theorem Step.frame {F F1 F2 : Hp} {L A B A' : Fp} {H H1 H2 : Hp} (s : Step F L H F1 (A ++ B) H1) (t : Step F1 A H1 F2 A' H2) : Step F L H F2 (A' ++ B) H2 := by
  obtain ⟨nA, nB, nAB⟩ := ND.append.mp s.ok.nd
  have hB : ∀ p ∈ B, H2 p.1 = some p.2 := fun p hp => t.keep _ _ (s.ok.inH p (List.mem_append_right _ hp)) (s.ok.nt p (List.mem_append_right _ hp)) fun q hq => nAB q hq p hp
  have dis : ∀ p ∈ A', ∀ q ∈ B, p.1 ≠ q.1 := fun p hp q hq e => by
    rcases t.fresh p hp with ⟨r, hr, er⟩ | hn
    · exact nAB r hr q hq (er.trans e)
    · rw [e, s.ok.inH q (List.mem_append_right _ hq)] at hn
      cases hn
  have nts : ∀ p ∈ A' ++ B, NT p.2 := fun p hp => (List.mem_append.mp hp).elim (t.ok.nt p) fun h => s.ok.nt p (List.mem_append_right _ h)
  refine ⟨⟨t.ok.fH, fun p hp => ?_, ND.append.mpr ⟨t.ok.nd, nB, dis⟩, fun p hp => ?_, nts, t.ok.ntF⟩, s.ff.trans t.ff, fun a o h z n => ?_, fun p hp => ?_, fun a o h => ?_, fun a h => s.dom a (t.dom a h), fun P h => t.tab P (s.tab P h)⟩
  · rcases List.mem_append.mp hp with hp | hp
    · exact t.ok.inH p hp
    · exact hB p hp
  · rcases List.mem_append.mp hp with hp | hp
    · exact t.ok.dj p hp
    · cases e : F2 p.1 with
      | none => rfl
      | some o =>
        rcases t.freshF _ _ e with h | ⟨q, hq, e2⟩ | h
        · rw [s.ok.dj p (List.mem_append_right _ hp)] at h
          cases h
        · exact absurd e2 (nAB q hq p hp)
        · rw [s.ok.inH p (List.mem_append_right _ hp)] at h
          cases h
  · have h1 := s.keep a o h z n
    refine t.keep a o h1 z fun q hq e => ?_
    rcases s.fresh q (List.mem_append_left _ hq) with ⟨r, hr, er⟩ | hn
    · exact n r hr (er.trans e)
    · rw [e, h] at hn
      cases hn
  · rcases List.mem_append.mp hp with hp | hp
    · rcases t.fresh p hp with ⟨r, hr, er⟩ | hn
      · rcases s.fresh r (List.mem_append_left _ hr) with ⟨r2, h2, e2⟩ | hn2
        · exact .inl ⟨r2, h2, e2.trans er⟩
        · exact .inr (er ▸ hn2)
      · by_cases q : ∃ q ∈ L, q.1 = p.1
        · exact .inl q
        · exact .inr (s.dom _ hn)
    · exact s.fresh p (List.mem_append_right _ hp)
  · rcases t.freshF a o h with h1 | ⟨q, hq, e⟩ | hn
    · exact s.freshF a o h1
    · rcases s.fresh q (List.mem_append_left _ hq) with ⟨r, hr, er⟩ | hn
      · exact .inr (.inl ⟨r, hr, er.trans e⟩)
      · exact .inr (.inr (e ▸ hn))
    · by_cases q : ∃ q ∈ L, q.1 = a
      · exact .inr (.inl q)
      · exact .inr (.inr (s.dom _ hn))
theorem Step.trans {F F1 F2 : Hp} {L A A' : Fp} {H H1 H2 : Hp} (s : Step F L H F1 A H1) (t : Step F1 A H1 F2 A' H2) : Step F L H F2 A' H2 := by
  have := Step.frame (B := []) (by simpa using s) t
  simpa using this

/-! ### what is new -/
theorem upd_dom {H : Hp} {p : Addr} {o : HO} : ∀ a, upd H p o a = none → H a = none := fun a h => by
  by_cases e : a = p
  · rw [e, upd_same] at h
    cases h
  · rw [upd_ne e] at h
    exact h
theorem tab_upd {H : Hp} {p : Addr} {o : HO} (hn : H p = none) : ∀ P, GxR.TabG H P → GxR.TabG (upd H p o) P := fun P h => by
  obtain ⟨ps, h1, h2⟩ := h
  exact ⟨ps, by rw [upd_ne (ne_of_none h1 hn)]; exact h1, h2⟩
/-- a new object that is owned -/
theorem Step.newOwned {F : Hp} {L : Fp} {H : Hp} (ok : Ok F L H) {p : Addr} (o : HO) (hn : H p = none) (nt : NT o := by intro _ h; cases h) : Step F L H F ((p, o) :: L) (upd H p o) := by
  have ne : ∀ q ∈ L, q.1 ≠ p := fun q hq e => by
    have := ok.inH q hq
    rw [e, hn] at this
    cases this
  have fn : F p = none := by
    cases e : F p with
    | none => rfl
    | some u =>
      have := ok.fH _ _ e
      rw [hn] at this
      cases this
  refine ⟨⟨fun a u h => ?_, fun q hq => ?_, ?_, fun q hq => ?_, fun q hq => (List.mem_cons.mp hq).elim (fun e => by rw [e]; exact nt) (ok.nt q), ok.ntF⟩, fun _ _ h => h, fun a u h _ _ => ?_, fun q hq => ?_, fun a u h => .inl h, upd_dom, tab_upd hn⟩
  · rw [upd_ne (ne_of_none h fn)]
    exact ok.fH _ _ h
  · rcases List.mem_cons.mp hq with rfl | hq
    · exact upd_same
    · rw [upd_ne (ne q hq)]
      exact ok.inH q hq
  · refine List.nodup_cons.mpr ⟨fun hm => ?_, ok.nd⟩
    obtain ⟨q, hq, e⟩ := List.mem_map.mp hm
    exact ne q hq e
  · rcases List.mem_cons.mp hq with rfl | hq
    · exact fn
    · exact ok.dj q hq
  · rw [upd_ne (ne_of_none h hn)]
    exact h
  · rcases List.mem_cons.mp hq with rfl | hq
    · exact .inr hn
    · exact .inl ⟨q, hq, rfl⟩
/-- a new object that never changes -/
theorem Step.newFrozen {F : Hp} {L : Fp} {H : Hp} (ok : Ok F L H) {p : Addr} (o : HO) (hn : H p = none) (nt : NT o := by intro _ h; cases h) : Step F L H (upd F p o) L (upd H p o) := by
  have ne : ∀ q ∈ L, q.1 ≠ p := fun q hq e => by
    have := ok.inH q hq
    rw [e, hn] at this
    cases this
  have fn : F p = none := by
    cases e : F p with
    | none => rfl
    | some u =>
      have := ok.fH _ _ e
      rw [hn] at this
      cases this
  refine ⟨⟨fun a u h => ?_, fun q hq => ?_, ok.nd, fun q hq => ?_, ok.nt, fun a u h => ?_⟩, fun a u h => ?_, fun a u h _ _ => ?_, fun q hq => .inl ⟨q, hq, rfl⟩, fun a u h => ?_, upd_dom, tab_upd hn⟩
  · by_cases e : a = p
    · subst e
      rw [upd_same] at h ⊢
      exact h
    · rw [upd_ne e] at h ⊢
      exact ok.fH _ _ h
  · rw [upd_ne (ne q hq)]
    exact ok.inH q hq
  · rw [upd_ne (ne q hq)]
    exact ok.dj q hq
  · by_cases e : a = p
    · rw [e, upd_same] at h
      cases h
      exact nt
    · rw [upd_ne e] at h
      exact ok.ntF a u h
  · rw [upd_ne (ne_of_none h fn)]
    exact h
  · rw [upd_ne (ne_of_none h hn)]
    exact h
  · by_cases e : a = p
    · subst e
      exact .inr (.inr hn)
    · rw [upd_ne e] at h
      exact .inl h
/-- what is owned is written -/
theorem Step.write {F : Hp} {L : Fp} {H : Hp} {p : Addr} {o : HO} (ok : Ok F ((p, o) :: L) H) (u : HO) (nt : NT u := by intro _ h; cases h) : Step F ((p, o) :: L) H F ((p, u) :: L) (upd H p u) := by
  have nd := ok.nd
  unfold ND at nd
  rw [List.map_cons, List.nodup_cons] at nd
  have ne : ∀ q ∈ L, q.1 ≠ p := fun q hq e => nd.1 (by
    have := List.mem_map_of_mem (f := fun p : Addr × HO => p.1) hq
    rw [e] at this
    exact this)
  have fn : F p = none := ok.dj (p, o) List.mem_cons_self
  have tb : ∀ P, GxR.TabG H P → GxR.TabG (upd H p u) P := fun P h => by
    obtain ⟨ps, h1, h2⟩ := h
    refine ⟨ps, ?_, h2⟩
    rw [upd_ne fun e => by
      have h3 := ok.inH (p, o) List.mem_cons_self
      rw [← e, h1] at h3
      exact ok.nt (p, o) List.mem_cons_self ps (Option.some.inj h3).symm]
    exact h1
  refine ⟨⟨fun a z h => ?_, fun q hq => ?_, ?_, fun q hq => ?_, fun q hq => (List.mem_cons.mp hq).elim (fun e => by rw [e]; exact nt) fun h => ok.nt q (List.mem_cons_of_mem _ h), ok.ntF⟩, fun _ _ h => h, fun a z h _ n => ?_, fun q hq => ?_, fun a z h => .inl h, upd_dom, tb⟩
  · rw [upd_ne (ne_of_none h fn)]
    exact ok.fH _ _ h
  · rcases List.mem_cons.mp hq with rfl | hq
    · exact upd_same
    · rw [upd_ne (ne q hq)]
      exact ok.inH q (List.mem_cons_of_mem _ hq)
  · exact List.nodup_cons.mpr nd
  · rcases List.mem_cons.mp hq with rfl | hq
    · exact fn
    · exact ok.dj q (List.mem_cons_of_mem _ hq)
  · rw [upd_ne fun e => n (p, o) List.mem_cons_self e.symm]
    exact h
  · rcases List.mem_cons.mp hq with rfl | hq
    · exact .inl ⟨(p, o), List.mem_cons_self, rfl⟩
    · exact .inl ⟨q, List.mem_cons_of_mem _ hq, rfl⟩
/-- F with cells -/
def addF (F : Hp) : Fp → Hp
  | [] => F
  | p :: L => upd (addF F L) p.1 p.2
theorem addF_out {F : Hp} {a : Addr} : ∀ {L : Fp}, (∀ p ∈ L, p.1 ≠ a) → addF F L a = F a
  | [], _ => rfl
  | p :: L, h => by
    show upd (addF F L) p.1 p.2 a = F a
    rw [upd_ne fun e => h p List.mem_cons_self e.symm]
    exact addF_out fun q hq => h q (List.mem_cons_of_mem _ hq)
theorem addF_in {F : Hp} : ∀ {L : Fp}, ND L → ∀ p ∈ L, addF F L p.1 = some p.2
  | [], _, _, h => by cases h
  | q :: L, nd, p, h => by
    unfold ND at nd
    rw [List.map_cons, List.nodup_cons] at nd
    show upd (addF F L) q.1 q.2 p.1 = some p.2
    rcases List.mem_cons.mp h with rfl | h
    · exact upd_same
    · rw [upd_ne fun e => nd.1 (by
        have := List.mem_map_of_mem (f := fun p : Addr × HO => p.1) h
        rw [e] at this
        exact this)]
      exact addF_in (L := L) nd.2 p h
theorem addF_cases {F : Hp} {a : Addr} {o : HO} : ∀ {L : Fp}, addF F L a = some o → (∃ p ∈ L, p.1 = a ∧ p.2 = o) ∨ F a = some o
  | [], h => .inr h
  | p :: L, h => by
    have h : upd (addF F L) p.1 p.2 a = some o := h
    by_cases e : a = p.1
    · rw [e, upd_same] at h
      exact .inl ⟨p, List.mem_cons_self, e.symm, Option.some.inj h⟩
    · rw [upd_ne e] at h
      rcases addF_cases h with ⟨q, hq, z⟩ | z
      · exact .inl ⟨q, List.mem_cons_of_mem _ hq, z⟩
      · exact .inr z
theorem addF_same {F : Hp} {L : Fp} (h : Out L F) : Same F (addF F L) := fun a o e => by
  rw [addF_out fun p hp z => by
    have := h p hp
    rw [z, e] at this
    cases this]
  exact e
/-- what is owned is frozen -/
theorem Step.freeze {F : Hp} {A B : Fp} {H : Hp} (ok : Ok F (A ++ B) H) : Step F (A ++ B) H (addF F A) B H := by
  obtain ⟨nA, nB, nAB⟩ := ND.append.mp ok.nd
  refine ⟨⟨fun a o h => ?_, ok.right.inH, nB, fun p hp => ?_, ok.right.nt, fun a o h => ?_⟩, addF_same ok.left.dj, fun a o h _ _ => h, fun p hp => .inl ⟨p, List.mem_append_right _ hp, rfl⟩, fun a o h => ?_, fun _ h => h, fun _ h => h⟩
  · rcases addF_cases h with ⟨p, hp, e1, e2⟩ | h
    · rw [← e1, ← e2]
      exact ok.inH p (List.mem_append_left _ hp)
    · exact ok.fH _ _ h
  · rw [addF_out fun q hq => nAB q hq p hp]
    exact ok.right.dj p hp
  · rcases addF_cases h with ⟨p, hp, e1, e2⟩ | h
    · rw [← e2]
      exact ok.nt p (List.mem_append_left _ hp)
    · exact ok.ntF a o h
  · rcases addF_cases h with ⟨p, hp, e1, e2⟩ | h
    · exact .inr (.inl ⟨p, List.mem_append_left _ hp, e1⟩)
    · exact .inl h

/-! ### freezing of data -/
mutual
def D.frz : D → D
  | .lst _ xs => .lst false (frzL xs)
  | .dct _ ks vs => .dct false ks (frzL vs)
  | .ins _ c ns fs => .ins false c ns (frzL fs)
  | .non => .non
  | .bl b => .bl b
  | .int i => .int i
  | .str x => .str x
  | .tup xs => .tup xs
  | .scr xs => .scr xs
  | .err n e => .err n e
def frzL : List D → List D
  | [] => []
  | d :: ds => d.frz :: frzL ds
end
theorem frz_fz : ∀ d : D, d.frz.fz = true
  | .lst _ xs => rfl
  | .dct _ ks vs => rfl
  | .ins _ c ns fs => rfl
  | .non => rfl
  | .bl b => rfl
  | .int i => rfl
  | .str x => rfl
  | .tup xs => rfl
  | .scr xs => rfl
  | .err _ _ => rfl
theorem frzL_fz : ∀ ds : List D, fzL (frzL ds) = true
  | [] => rfl
  | d :: ds => by
    show (d.frz.fz && fzL (frzL ds)) = true
    rw [frz_fz d, frzL_fz ds] <;> rfl
section
variable {K : PySem.W.Frag} {F G : Hp}
mutual
theorem Own.frz (e : Same F G) : ∀ (d : D) (v : V) (L : Fp), (∀ p ∈ L, G p.1 = some p.2) → Own K F d v L → Own K G d.frz v []
  | .non, _, _, _, h => ⟨h.1, rfl⟩
  | .bl _, _, _, _, h => ⟨h.1, rfl⟩
  | .int _, _, _, _, h => ⟨h.1, rfl⟩
  | .str _, _, _, _, h => ⟨h.1, rfl⟩
  | .tup ds, v, L, _, h => by
    have h' : Own K G (.tup ds) v L := Own.mono e _ _ _ h
    rw [h.1] at h'
    exact h'
  | .scr ds, v, L, _, h => by
    have h' : Own K G (.scr ds) v L := Own.mono e _ _ _ h
    rw [h.1] at h'
    exact h'
  | .lst false ds, _, _, i, h => by
    obtain ⟨h1, a, vs, h2, h3, h4⟩ := h
    exact ⟨rfl, a, vs, h2, e _ _ h3, OwnL.frz e ds _ _ (fun p hp => by cases hp) h4⟩
  | .lst true ds, _, _, i, h => by
    obtain ⟨a, vs, L', h1, h2, h4⟩ := h
    subst h2
    exact ⟨rfl, a, vs, h1, i (a, .lst vs) List.mem_cons_self, OwnL.frz e ds _ _ (fun p hp => i p (List.mem_cons_of_mem _ hp)) h4⟩
  | .dct _ _ _, _, _, _, h => by
    obtain ⟨h1, rfl, rfl, h4, a, h5, h6⟩ := h
    exact ⟨rfl, rfl, rfl, rfl, a, h5, e _ _ h6⟩
  | .ins false c ns ds, _, _, i, h => by
    obtain ⟨h0, h1, a, dx, vs, h2, h3, h4, h5, h6⟩ := h
    exact ⟨h0, rfl, a, dx, vs, h2, e _ _ h3, e _ _ h4, h5, OwnL.frz e ds _ _ (fun p hp => by cases hp) h6⟩
  | .ins true c ns ds, _, _, i, h => by
    obtain ⟨h0, a, dx, vs, L', h1, h2, h5, h6⟩ := h
    subst h2
    exact ⟨h0, rfl, a, dx, vs, h1, i (a, .ins (He.ga K c) dx (ns.zip vs)) List.mem_cons_self, i (dx, .own a) (List.mem_cons_of_mem _ List.mem_cons_self), h5, OwnL.frz e ds _ _ (fun p hp => i p (List.mem_cons_of_mem _ (List.mem_cons_of_mem _ hp))) h6⟩
  | .err n d, v, L, _, h => by
    have h' : Own K G (.err n d) v L := Own.mono e _ _ _ h
    rw [h.1] at h'
    exact h'
theorem OwnL.frz (e : Same F G) : ∀ (ds : List D) (vs : List V) (L : Fp), (∀ p ∈ L, G p.1 = some p.2) → OwnL K F ds vs L → OwnL K G (frzL ds) vs []
  | [], _, _, _, h => ⟨h.1, rfl⟩
  | d :: ds, _, _, i, h => by
    obtain ⟨v, r, L1, L2, h1, h2, h3, h4⟩ := h
    subst h2
    exact ⟨v, r, [], [], h1, rfl, Own.frz e d _ _ (fun p hp => i p (List.mem_append_left _ hp)) h3, OwnL.frz e ds _ _ (fun p hp => i p (List.mem_append_right _ hp)) h4⟩
end
end
mutual
theorem frz_id : ∀ d : D, d.frz.frz = d.frz
  | .lst _ xs => by show D.lst false (frzL (frzL xs)) = _; rw [frzL_id xs] <;> rfl
  | .dct _ ks vs => by show D.dct false ks (frzL (frzL vs)) = _; rw [frzL_id vs] <;> rfl
  | .ins _ c ns fs => by show D.ins false c ns (frzL (frzL fs)) = _; rw [frzL_id fs] <;> rfl
  | .non => rfl
  | .bl b => rfl
  | .int i => rfl
  | .str x => rfl
  | .tup xs => rfl
  | .scr xs => rfl
  | .err _ _ => rfl
theorem frzL_id : ∀ ds : List D, frzL (frzL ds) = frzL ds
  | [] => rfl
  | d :: ds => by
    show d.frz.frz :: frzL (frzL ds) = _
    rw [frz_id d, frzL_id ds] <;> rfl
end
/-! ### fields -/
def look {α : Type} (f : Str) : List Str → List α → Option α
  | g :: ns, x :: xs => if f = g then some x else look f ns xs
  | _, _ => none
def putN (f : Str) : List Str → List Str
  | [] => [f]
  | g :: ns => if g = f then g :: ns else g :: putN f ns
def putV {α : Type} (f : Str) (d : α) : List Str → List α → List α
  | g :: ns, x :: xs => if g = f then d :: xs else x :: putV f d ns xs
  | _, _ => [d]
theorem look_zip {f : Str} : ∀ {ns : List Str} {vs : List V}, (ns.zip vs).lookup f = look f ns vs
  | [], _ => rfl
  | _ :: _, [] => rfl
  | g :: ns, v :: vs => by
    show List.lookup f ((g, v) :: ns.zip vs) = if f = g then some v else look f ns vs
    by_cases e : f = g
    · subst e
      rw [if_pos rfl, List.lookup_cons_self]
    · have e2 : (f == g) = false := by simpa using e
      rw [if_neg e, List.lookup_cons, e2]
      exact look_zip
theorem put_zip {f : Str} {v : V} : ∀ {ns : List Str} {vs : List V}, ns.length = vs.length → (putN f ns).zip (putV f v ns vs) = putF f v (ns.zip vs) ∧ (putN f ns).length = (putV f v ns vs).length
  | [], [], _ => ⟨rfl, rfl⟩
  | [], _ :: _, h => by cases h
  | _ :: _, [], h => by cases h
  | g :: ns, x :: vs, h => by
    have h' : ns.length = vs.length := by simpa using h
    obtain ⟨i1, i2⟩ := put_zip (f := f) (v := v) h'
    by_cases e : g = f
    · unfold putN putV
      rw [if_pos e, if_pos e]
      refine ⟨?_, by simpa using h'⟩
      show (g, v) :: ns.zip vs = putF f v ((g, x) :: ns.zip vs)
      unfold putF
      rw [if_pos e]
    · unfold putN putV
      rw [if_neg e, if_neg e]
      refine ⟨?_, by simpa using i2⟩
      show (g, x) :: (putN f ns).zip (putV f v ns vs) = putF f v ((g, x) :: ns.zip vs)
      rw [i1]
      show _ = if g = f then _ else _
      rw [if_neg e]
section
variable {K : PySem.W.Frag} {F : Hp}
theorem OwnL.look {f : Str} {d : D} : ∀ {ns : List Str} {ds : List D} {vs : List V} {L : Fp}, OwnL K F ds vs L → VM.look f ns ds = some d → ∃ v L1, VM.look f ns vs = some v ∧ List.Sublist L1 L ∧ Own K F d v L1
  | [], _, _, _, _, e => by simp [VM.look] at e
  | _ :: _, [], _, _, _, e => by simp [VM.look] at e
  | g :: ns, x :: ds, _, _, h, e => by
    obtain ⟨v, r, L1, L2, rfl, rfl, h3, h4⟩ := h
    have e : (if f = g then some x else VM.look f ns ds) = some d := e
    show ∃ u M, (if f = g then some v else VM.look f ns r) = some u ∧ _
    by_cases q : f = g
    · rw [if_pos q] at e
      cases e
      exact ⟨v, L1, by rw [if_pos q], List.sublist_append_left _ _, h3⟩
    · rw [if_neg q] at e
      obtain ⟨u, M, e1, e2, e3⟩ := OwnL.look h4 e
      exact ⟨u, M, by rw [if_neg q]; exact e1, e2.trans (List.sublist_append_right _ _), e3⟩
theorem OwnL.put {f : Str} {d : D} {v : V} {M : Fp} (o : Own K F d v M) : ∀ {ns : List Str} {ds : List D} {vs : List V} {L : Fp}, OwnL K F ds vs L → ns.length = vs.length → ∃ L' R, OwnL K F (putV f d ns ds) (putV f v ns vs) L' ∧ L'.Perm (M ++ R) ∧ List.Sublist R L
  | [], [], vs, L, h, _ => by
    obtain ⟨rfl, rfl⟩ := h
    exact ⟨M ++ [], [], ⟨v, [], M, [], rfl, rfl, o, rfl, rfl⟩, List.Perm.refl _, List.Sublist.refl _⟩
  | [], _ :: _, _, _, h, e => by
    obtain ⟨u, r, L1, L2, rfl, rfl, h3, h4⟩ := h
    cases e
  | _ :: _, [], _, _, h, e => by
    obtain ⟨rfl, rfl⟩ := h
    cases e
  | g :: ns, x :: ds, _, _, h, e => by
    obtain ⟨u, r, L1, L2, rfl, rfl, h3, h4⟩ := h
    have e' : ns.length = r.length := by simpa using e
    show ∃ L' R, OwnL K F (if g = f then d :: ds else x :: putV f d ns ds) (if g = f then v :: r else u :: putV f v ns r) L' ∧ _
    by_cases q : g = f
    · rw [if_pos q, if_pos q]
      exact ⟨M ++ L2, L2, ⟨v, r, M, L2, rfl, rfl, o, h4⟩, List.Perm.refl _, List.sublist_append_right _ _⟩
    · rw [if_neg q, if_neg q]
      obtain ⟨L', R, h5, h6, h7⟩ := OwnL.put o h4 e'
      exact ⟨L1 ++ L', L1 ++ R, ⟨u, _, L1, L', rfl, rfl, h3, h5⟩, (List.Perm.append_left L1 h6).trans (List.perm_append_comm_assoc L1 M R), List.Sublist.append (List.Sublist.refl _) h7⟩
end
end VM

/-! Part B: the little language and what it does with data. -/
namespace VM
open PySem PySem.Spec PyProof.Rows L2

inductive Ty where
  | int | bool | str | list | tuple | dict
  deriving DecidableEq
/-- operations that make nothing new -/
inductive Op where
  | sub | mod | fdiv | neg | pow
  | lt | le | gt | ge | eq | ne | isN | notN
  | len | idx | isi (ts : List Ty) | toInt | allB | inn | notin | repr | isC (cs : List Str) (c : Str) | isX (t : Nat) | isVE
/-- operations that make a list or a tuple -/
inductive AOp where
  | tupOf | lstOf | cut (lo hi : Bool) | add | mul | emp

def D.py : D → Option PyData
  | .non => some .none
  | .bl b => some (.bool b)
  | .int i => some (.int i)
  | .str x => some (.str x)
  | .tup xs => (pyL xs).map .tuple
  | .lst _ xs => (pyL xs).map .list
  | .scr xs => (pyL xs).map .list
  | .dct _ [] [] => some (.dict [])
  | .dct _ _ _ => none
  | .ins _ _ _ _ => none
  | .err _ _ => none
where pyL : List D → Option (List PyData)
  | [] => some []
  | d :: ds => match d.py, pyL ds with
    | some a, some b => some (a :: b)
    | _, _ => none
mutual
/-- alike in form and content; dicts: the empty one alone -/
def psame : PyData → PyData → Bool
  | .none, .none => true
  | .bool a, .bool b => a == b
  | .int a, .int b => a == b
  | .str a, .str b => a == b
  | .list xs, .list ys => psameL xs ys
  | .tuple xs, .tuple ys => psameL xs ys
  | .dict [], .dict [] => true
  | _, _ => false
def psameL : List PyData → List PyData → Bool
  | [], [] => true
  | x :: xs, y :: ys => psame x y && psameL xs ys
  | _, _ => false
end
def PyData.isSq : PyData → Bool
  | .list _ => true
  | .tuple _ => true
  | _ => false
def peq (x y : PyData) : Option Bool :=
  if x.plain = true ∧ y.plain = true ∧ x.depth ≤ 64 then some (PyData.eqv x y)
  else if PyData.isSq x = true ∧ x.depth ≤ 60 ∧ psame x y = true then some true else (match x, y with
    | .dict [], .str _ => some false
    | .dict [], .dict [] => some true
    | _, _ => none)
def deq (a b : D) : Option Bool := match a.py, b.py with
  | some x, some y => peq x y
  | _, _ => none
/-- what repr tells of data -/
def prepr (x : PyData) : Option Str := if x.showable = true ∧ x.depth ≤ 60 ∧ x.shown.length ≤ sizeLine then some x.shown else none
def D.items : D → Option (List D)
  | .tup xs => some xs
  | .lst _ xs => some xs
  | .scr xs => some xs
  | _ => none
def D.isNon : D → Bool
  | .non => true
  | _ => false
inductive Kd where
  | non | bl | int | str | tup | lst | dct | ins
  deriving DecidableEq
def D.kd : D → Kd
  | .non => .non | .bl _ => .bl | .int _ => .int | .str _ => .str | .tup _ => .tup | .lst _ _ => .lst | .scr _ => .lst | .dct _ _ _ => .dct | .ins _ _ _ _ => .ins | .err _ _ => .ins
def Ty.nm : Ty → String
  | .int => "int" | .bool => "bool" | .str => "str" | .list => "list" | .tuple => "tuple" | .dict => "dict"
def Kd.nm : Kd → String
  | .non => "NoneType" | .bl => "bool" | .int => "int" | .str => "str" | .tup => "tuple" | .lst => "list" | .dct => "dict" | .ins => "object"
def Kd.isTy (d : Kd) (t : Ty) : Bool := match d, t with
  | .int, .int => true
  | .bl, .int => true
  | .bl, .bool => true
  | .str, .str => true
  | .tup, .tuple => true
  | .lst, .list => true
  | .dct, .dict => true
  | _, _ => false
def boolsOf : List D → Option (List Bool)
  | [] => some []
  | .bl b :: ds => (boolsOf ds).map (b :: ·)
  | _ => none
def CMulB (i j : Int) : Bool := decide (-(2 ^ 64) < i ∧ i < 2 ^ 64) || decide (-(2 ^ 64) < j ∧ j < 2 ^ 64)
/-- an instance of the class c that never changes -/
def D.isFz (c : Str) : D → Bool
  | .ins false c' _ _ => c' == c
  | _ => false
def D.isTu : D → Bool
  | .tup _ => true
  | _ => false
def D.isTI : D → Bool
  | .tup _ => true
  | .int _ => true
  | _ => false
def D.isIns (cs : List Str) (c : Str) : D → Option D
  | .ins _ c' _ _ => if c' ∈ cs then some (.bl (c' == c)) else none
  | .err _ _ => none
  | _ => some (.bl false)
def errSub (c t : Nat) : Bool := c == t || t == 0
def bop : Op → List D → Option D
  | .sub, [.int a, .int b] => some (.int (a - b))
  | .mod, [.int a, .int b] => if 0 < b then some (.int (a % b)) else none
  | .fdiv, [.int a, .int b] => if 0 < b ∧ b < 1073741824 then some (.int (a / b)) else none
  | .neg, [.int a] => some (.int (-a))
  | .pow, [.int a, .int b] => if 0 ≤ b ∧ b ≤ 1000000 ∧ a.natAbs < 2 ^ 64 then some (.int (a ^ b.toNat)) else none
  | .lt, [.int a, .int b] => some (.bl (decide (a < b)))
  | .le, [.int a, .int b] => some (.bl (decide (a ≤ b)))
  | .gt, [.int a, .int b] => some (.bl (decide (b < a)))
  | .ge, [.int a, .int b] => some (.bl (decide (b ≤ a)))
  | .eq, [a, b] => (deq a b).map .bl
  | .ne, [a, b] => (deq a b).map fun c => .bl (!c)
  | .isN, [a] => some (.bl a.isNon)
  | .notN, [a] => some (.bl (!a.isNon))
  | .len, [.str x] => if x.length ≤ sizeLine then some (.int x.length) else none
  | .len, [a] => a.items.map fun xs => .int xs.length
  | .idx, [.str x, .int i] => if x.length ≤ sizeLine then (atI x.cps.toList i).map fun c => .str ⟨#[c]⟩ else none
  | .idx, [a, .int i] => a.items.bind fun xs => atI xs i
  | .isi ts, [a] => some (.bl (ts.any a.kd.isTy))
  | .toInt, [.int a] => some (.int a)
  | .toInt, [.bl b] => some (.int (if b then 1 else 0))
  | .allB, [.lst _ bs] => (boolsOf bs).map fun bs => .bl (bs.all id)
  | .repr, [a] => (a.py.bind prepr).map .str
  | .isC cs c, [a] => a.isIns cs c
  | .isX t, [.err n _] => if n < 26 then some (.bl (errSub n t)) else none
  | .isVE, [.err _ _] => some (.bl true)
  | _, _ => none
def cutD (xs : List D) (lo hi : Option Int) : List D :=
  (xs.drop (HT.sIx xs.length 0 lo)).take (HT.sIx xs.length xs.length hi - HT.sIx xs.length 0 lo)
def cutBy (x : D) (lo hi : Option Int) : Option D := match x with
  | .tup xs => some (.tup (cutD xs lo hi))
  | .lst _ xs => if fzL xs = true then some (.lst true (cutD xs lo hi)) else none
  | .scr xs => some (.lst true (cutD xs lo hi))
  | _ => none
def aop : AOp → List D → Option D
  | .emp, [] => some (.dct false [] [])
  | .tupOf, [.tup xs] => some (.tup xs)
  | .tupOf, [.lst _ xs] => if fzL xs = true then some (.tup xs) else none
  | .tupOf, [.scr xs] => some (.tup xs)
  | .lstOf, [.tup xs] => some (.lst true xs)
  | .lstOf, [.lst _ xs] => if fzL xs = true then some (.lst true xs) else none
  | .lstOf, [.scr xs] => some (.lst true xs)
  | .cut false false, [x] => cutBy x none none
  | .cut true false, [x, .int lo] => cutBy x (some lo) none
  | .cut false true, [x, .int hi] => cutBy x none (some hi)
  | .cut true true, [x, .int lo, .int hi] => cutBy x (some lo) (some hi)
  | .add, [.int a, .int b] => some (.int (a + b))
  | .add, [.str a, .str b] => if a.length + b.length ≤ sizeLine then some (.str (a ++ b)) else none
  | .add, [.tup xs, .tup ys] => if xs.length + ys.length ≤ sizeLine then some (.tup (xs ++ ys)) else none
  | .add, [.lst _ xs, .lst _ ys] => if fzL xs = true ∧ fzL ys = true ∧ xs.length + ys.length ≤ sizeLine then some (.lst true (xs ++ ys)) else none
  | .mul, [.int a, .int b] => if CMulB a b = true then some (.int (a * b)) else none
  | .mul, [.lst _ xs, .int k] => if fzL xs = true ∧ -(2 ^ 63) ≤ k ∧ k < 2 ^ 63 ∧ xs.length * k.toNat ≤ sizeLine then some (.lst true (List.replicate k.toNat xs).flatten) else none
  | _, _ => none
/-- a new list, not owned -/
def D.topfz : D → D
  | .lst _ xs => .lst false xs
  | d => d

abbrev En := List (Option D)
/-- what is being handled: the class, the value -/
abbrev Cur := Option (Nat × D)

mutual
/-- plain expressions: what they read stays as it is -/
inductive Sx where
  | var (i : Nat) | cst (d : D)
  | op (o : Op) (as : Sxs) | aop (o : AOp) (as : Sxs)
  | tup (as : Sxs)
  | and (a b : Sx) | or (a b : Sx) | not (a : Sx) | chain (o1 o2 : Op) (a b c : Sx) | ite (c a b : Sx)
  | errVal | errIs (cs : List Nat) | errVE
  | fld (cs : List Str) (s : Sx) (f : Str)
  | xval (s : Sx)
inductive Sxs where
  | nil | cons (a : Sx) (r : Sxs)
end

mutual
def sv (cur : Cur) (E : En) : Sx → Option D
  | .var i => E[i]?.join
  | .cst d => some d
  | .op o as => (svs cur E as).bind (bop o)
  | .aop o as => ((svs cur E as).bind (aop o)).map D.topfz
  | .tup as => (svs cur E as).bind fun ds => if fzL ds = true ∧ ds.length ≤ sizeLine then some (.tup ds) else none
  | .and a b => match sv cur E a with
    | some (.bl true) => sv cur E b
    | some (.bl false) => some (.bl false)
    | _ => none
  | .or a b => match sv cur E a with
    | some (.bl true) => some (.bl true)
    | some (.bl false) => sv cur E b
    | _ => none
  | .not a => match sv cur E a with
    | some (.bl c) => some (.bl (!c))
    | _ => none
  | .chain o1 o2 a b c => match sv cur E a, sv cur E b with
    | some x, some y => match bop o1 [x, y] with
      | some (.bl true) => (sv cur E c).bind fun z => bop o2 [y, z]
      | some (.bl false) => some (.bl false)
      | _ => none
    | _, _ => none
  | .ite c a b => match sv cur E c with
    | some (.bl true) => sv cur E a
    | some (.bl false) => sv cur E b
    | _ => none
  | .errVal => cur.map (·.2)
  | .errIs cs => cur.map fun p => .bl (cs.any fun t => errSub p.1 t)
  | .errVE => cur.map fun _ => .bl true
  | .fld cs s f => match sv cur E s with
    | some (.ins _ c ns ds) => if c ∈ cs then look f ns ds else none
    | _ => none
  | .xval s => match sv cur E s with
    | some (.err _ e) => some e
    | _ => none
def svs (cur : Cur) (E : En) : Sxs → Option (List D)
  | .nil => some []
  | .cons a r => match sv cur E a, svs cur E r with
    | some d, some ds => some (d :: ds)
    | _, _ => none
end

/-- what a def did: its value (or the error), what its arguments are now -/
inductive Rr where
  | ret (d : D) (ps : List D) | exc (c : Nat) (d : D) (ps : List D) | bad
inductive R (α : Type) where
  | ok (a : α) (E : En) | exc (c : Nat) (d : D) (E : En) | bad

/-- targets of a for, of an unpacking -/
inductive Tg where
  | nm (i : Nat) | tup (is : List Nat)
def bindAll : List Nat → List D → En → Option En
  | [], [], E => some E
  | i :: is, d :: ds, E => if i < E.length then bindAll is ds (E.set i (some d)) else none
  | _, _, _ => none
def Tg.bind : Tg → D → En → Option En
  | .nm i, d, E => if i < E.length then some (E.set i (some d)) else none
  | .tup is, .tup ds, E => bindAll is ds E
  | .tup _, _, _ => none
def Tg.asg : Tg → List Nat
  | .nm i => [i]
  | .tup is => is

/-- methods of a list at a name -/
inductive Mut where
  | append | extend | pop | popAt
/-- slots forgotten -/
def clr (E : En) : List Nat → En
  | [] => E
  | v :: vs => (clr E vs).set v none
mutual
inductive M where
  | sx (s : Sx) | mv (i : Nat)
  | new (o : AOp) (as : Sxs)
  | lst (as : Ms) | tup (as : Ms)
  | op (o : Op) (as : Ms) | aop (o : AOp) (as : Ms)
  | and (a b : M) | or (a b : M) | not (a : M) | ite (c a b : M)
  | call (f : Nat) (as : As)
  | mut (o : Mut) (i : Nat) (as : Ms)
  | lc (t : Tg) (elt : M) (src : Src) (cnd : Sx)
  | lcl (t : Tg) (elt : M) (i : Nat) (cnd : Sx)
  | gen (i j : Nat) (m : Int)
  | tk (i : Nat)
  | fz (m : M)
  | make (c : Str) (f : Nat) (as : As)
  | cmpI (c : Str) (f : Nat) (a b : M)
  | mkE (n : Nat) (as : Ms)
  | cmpX (md : Nat) (c : Str) (f : Nat) (a b : M)
inductive Ms where
  | nil | cons (a : M) (r : Ms)
/-- arguments of a def: a name is lent -/
inductive As where
  | nil | nm (i : Nat) (r : As) | ex (m : M) (r : As)
/-- what a comprehension or a for walks -/
inductive Src where
  | sx (s : Sx) | m (m : M) | rng1 (a : Sx) | rng2 (a b : Sx) | rngM (m : M) | enum (s : Sx)
end
/-- enumerate: each with its place -/
def enumD : Nat → List D → List D
  | _, [] => []
  | k, d :: ds => .tup [.int k, d] :: enumD (k + 1) ds

def rngD (lo hi : Int) : List D := (List.range (hi - lo).toNat).map fun k => D.int (lo + (k : Nat))
/-- a list's method: what it gives, the list behind it -/
def mutD : Mut → List D → List D → Option (D × List D)
  | .append, xs, [y] => if xs.length < sizeLine then some (.non, xs ++ [y]) else none
  | .extend, xs, [.lst _ ys] => if fzL ys = true ∧ xs.length + ys.length ≤ sizeLine then some (.non, xs ++ ys) else none
  | .pop, xs, [] => if fzL xs = true then xs[xs.length - 1]?.map fun y => (y, xs.dropLast) else none
  | .popAt, xs, [.int i] => if fzL xs = true ∧ -(2 ^ 63) ≤ i ∧ i < 2 ^ 63 then (seqIndex? i xs.length).bind fun k => xs[k]?.map fun y => (y, xs.eraseIdx k) else none
  | _, _, _ => none
/-- lent names come back -/
def back : As → List D → En → En
  | .nm i r, p :: ps, E => back r ps (match E[i]? with
    | some none => E.set i (some p)
    | _ => E)
  | .ex _ r, _ :: ps, E => back r ps E
  | _, _, E => E
def intsOf : List D → Option (List Int)
  | [] => some []
  | .int n :: ds => (intsOf ds).map (n :: ·)
  | _ => none
def small62 (i : Int) : Bool := decide (-(2 ^ 62) ≤ i ∧ i < 2 ^ 62)

/-- a comprehension: f the element, c the test, t the target (its slots are empty ahead of each turn) -/
def lcGo (f : En → R D) (c : En → Option D) (t : Tg) : List D → En → R (List D)
  | [], E => .ok [] E
  | d :: ds, E => match t.bind d E with
    | some E0 => (match c E0 with
      | some (.bl true) => (match f E0 with
        | .ok x E1 => (match lcGo f c t ds (clr E1 t.asg) with
          | .ok xs E2 => .ok (x :: xs) E2
          | _ => .bad)
        | _ => .bad)
      | some (.bl false) => lcGo f c t ds (clr E0 t.asg)
      | _ => .bad)
    | none => .bad

section
variable (call : Nat → List D → Rr) (cur : Cur)
mutual
def ev : M → En → R D
  | .sx s, E => match sv cur E s with
    | some d => if d.fz = true then .ok d E else .bad
    | none => .bad
  | .mv i, E => match E[i]? with
    | some (some d) => .ok d.frz (E.set i (some d.frz))
    | _ => .bad
  | .new o as, E => match (svs cur E as).bind (aop o) with
    | some d => .ok d E
    | none => .bad
  | .lst as, E => match evs as E with
    | .ok ds E1 => if ds.length ≤ sizeLine then .ok (.lst true ds) E1 else .bad
    | .exc c d E1 => .exc c d E1
    | .bad => .bad
  | .tup as, E => match evs as E with
    | .ok ds E1 => if ds.length ≤ sizeLine then .ok (.tup (frzL ds)) E1 else .bad
    | .exc c d E1 => .exc c d E1
    | .bad => .bad
  | .op o as, E => match evs as E with
    | .ok ds E1 => (match bop o ds with
      | some d => .ok d E1
      | none => .bad)
    | .exc c d E1 => .exc c d E1
    | .bad => .bad
  | .aop o as, E => match evs as E with
    | .ok ds E1 => (match aop o ds with
      | some d => .ok d E1
      | none => .bad)
    | .exc c d E1 => .exc c d E1
    | .bad => .bad
  | .and a b, E => match ev a E with
    | .ok (.bl true) E1 => ev b E1
    | .ok (.bl false) E1 => .ok (.bl false) E1
    | .exc c d E1 => .exc c d E1
    | _ => .bad
  | .or a b, E => match ev a E with
    | .ok (.bl true) E1 => .ok (.bl true) E1
    | .ok (.bl false) E1 => ev b E1
    | .exc c d E1 => .exc c d E1
    | _ => .bad
  | .not a, E => match ev a E with
    | .ok (.bl c) E1 => .ok (.bl (!c)) E1
    | .exc c d E1 => .exc c d E1
    | _ => .bad
  | .ite c a b, E => match ev c E with
    | .ok (.bl true) E1 => ev a E1
    | .ok (.bl false) E1 => ev b E1
    | .exc c d E1 => .exc c d E1
    | _ => .bad
  | .call f as, E => match evA as E with
    | .ok ds E1 => (match call f ds with
      | .ret d ps => .ok d (back as ps E1)
      | .exc c d ps => .exc c d (back as ps E1)
      | .bad => .bad)
    | .exc c d E1 => .exc c d E1
    | .bad => .bad
  | .mut o i as, E => match E[i]? with
    | some (some (.lst true _)) => (match evs as E with
      | .ok ds E1 => (match E1[i]? with
        | some (some (.lst true xs)) => (match mutD o xs ds with
          | some (d, ys) => .ok d (E1.set i (some (.lst true ys)))
          | none => .bad)
        | _ => .bad)
      | .exc c d E1 => .exc c d E1
      | .bad => .bad)
    | _ => .bad
  | .lc t elt src cnd, E => match evSrc src E with
    | .ok items E1 => if items.length ≤ sizeLine then (match lcGo (ev elt) (fun E => sv cur E cnd) t items (clr E1 t.asg) with
      | .ok xs E2 => .ok (.lst true xs) E2
      | _ => .bad) else .bad
    | .exc c d E1 => .exc c d E1
    | .bad => .bad
  | .lcl t elt i cnd, E => match E[i]? with
    | some (some l) => (match l.items with
      | some xs => if (l.fz || fzL xs) = true ∧ xs.length ≤ sizeLine ∧ i ∉ t.asg then (match lcGo (ev elt) (fun E => sv cur E cnd) t xs (clr (E.set i none) t.asg) with
        | .ok ys E2 => (match E2[i]? with
          | some none => .ok (.lst true ys) (E2.set i (some l))
          | _ => .bad)
        | _ => .bad) else .bad
      | none => .bad)
    | _ => .bad
  | .tk i, E => match E[i]? with
    | some (some d) => .ok d (E.set i none)
    | _ => .bad
  | .fz m, E => match ev m E with
    | .ok d E1 => .ok d.frz E1
    | .exc c d E1 => .exc c d E1
    | .bad => .bad
  | .make c f as, E => match evA as E with
    | .ok ds E1 => (match call f (.ins true c [] [] :: ds) with
      | .ret .non (d :: ps) => .ok d (back as ps E1)
      | .exc k d (_ :: ps) => .exc k d (back as ps E1)
      | _ => .bad)
    | .exc c d E1 => .exc c d E1
    | .bad => .bad
  | .cmpI c f a b, E => match ev a E with
    | .ok x E1 => (match ev b E1 with
      | .ok y E2 => if x.isFz c = true ∧ y.isFz c = true then (match call f [x, y] with
        | .ret (.bl z) [_, _] => .ok (.bl z) E2
        | _ => .bad) else .bad
      | .exc c d E2 => .exc c d E2
      | .bad => .bad)
    | .exc c d E1 => .exc c d E1
    | .bad => .bad
  | .cmpX md c f a b, E => match ev a E with
    | .ok x E1 => (match ev b E1 with
      | .ok y E2 => (match md with
        | 0 => if x.isFz c = true ∧ y.isFz c = true then (match call f [x, y] with
          | .ret (.bl z) [_, _] => .ok (.bl (!z)) E2
          | _ => .bad) else .bad
        | 1 => if x.isFz c = true ∧ y.isTI = true then (match call f [x, y] with
          | .ret (.bl z) [_, _] => .ok (.bl z) E2
          | _ => .bad) else .bad
        | _ => if x.isTu = true ∧ y.isFz c = true then (match call f [y, x] with
          | .ret (.bl z) [_, _] => .ok (.bl z) E2
          | _ => .bad) else .bad)
      | .exc c d E2 => .exc c d E2
      | .bad => .bad)
    | .exc c d E1 => .exc c d E1
    | .bad => .bad
  | .mkE n as, E => match evs as E with
    | .ok [] E1 => .ok (.err n .non) E1
    | .ok [d] E1 => .ok (.err n d.frz) E1
    | .exc c d E1 => .exc c d E1
    | _ => .bad
  | .gen i j m, E => match E[i]?, E[j]? with
    | some (some (.tup xs)), some (some (.int b)) => (match intsOf xs with
      | some ws => if 0 < m then .ok (.tup (ws.map fun a => .int ((a + b) % m))) E else .bad
      | none => .bad)
    | _, _ => .bad
def evs : Ms → En → R (List D)
  | .nil, E => .ok [] E
  | .cons a r, E => match ev a E with
    | .ok d E1 => (match evs r E1 with
      | .ok ds E2 => .ok (d :: ds) E2
      | .exc c d E2 => .exc c d E2
      | .bad => .bad)
    | .exc c d E1 => .exc c d E1
    | .bad => .bad
def evA : As → En → R (List D)
  | .nil, E => .ok [] E
  | .nm i r, E => match E[i]? with
    | some (some _) => (match evA r E with
      | .ok ds E2 => (match E2[i]? with
        | some (some d) => .ok (d :: ds) (if d.fz = true then E2 else E2.set i none)
        | _ => .bad)
      | .exc c d E2 => .exc c d E2
      | .bad => .bad)
    | _ => .bad
  | .ex a r, E => match ev a E with
    | .ok d E1 => (match evA r E1 with
      | .ok ds E2 => .ok (d :: ds) E2
      | .exc c d E2 => .exc c d E2
      | .bad => .bad)
    | .exc c d E1 => .exc c d E1
    | .bad => .bad
def evSrc : Src → En → R (List D)
  | .sx s, E => match sv cur E s with
    | some d => if d.fz = true then (match d.items with
      | some ds => .ok ds E
      | none => .bad) else .bad
    | none => .bad
  | .m m, E => match ev m E with
    | .ok d E1 => (match d.items with
      | some ds => if (d.fz || fzL ds) = true then .ok ds E1 else .bad
      | none => .bad)
    | .exc c d E1 => .exc c d E1
    | .bad => .bad
  | .rngM m, E => match ev m E with
    | .ok (.int n) E1 => if small62 n = true then .ok (rngD 0 n) E1 else .bad
    | .exc c d E1 => .exc c d E1
    | _ => .bad
  | .enum s, E => match sv cur E s with
    | some d => if d.fz = true then (match d.items with
      | some ds => .ok (enumD 0 ds) E
      | none => .bad) else .bad
    | none => .bad
  | .rng1 a, E => match sv cur E a with
    | some (.int n) => if small62 n = true then .ok (rngD 0 n) E else .bad
    | _ => .bad
  | .rng2 a b, E => match sv cur E a, sv cur E b with
    | some (.int i), some (.int j) => if small62 i = true ∧ small62 j = true then .ok (rngD i j) E else .bad
    | _, _ => .bad
end
end

mutual
inductive S where
  | set (t : Tg) (m : M)
  | put (i : Nat) (ix : Sx) (m : M)
  | putm (i : Nat) (ix : M) (m : M)
  | expr (m : M)
  | ifs (c : M) (a b : B)
  | fors (t : Tg) (src : Src) (b : B)
  | forl (t : Tg) (i : Nat) (b : B)
  | whl (c : M) (b : B)
  | ret (m : M) | retN | brk | cnt | pass
  | raise (c : Nat) (as : Ms)
  | tri (b : B) (c : Nat) (i : Nat) (h : B)
  | fset (cs : List Str) (i : Nat) (f : Str) (m : M)
inductive B where
  | nil | cons (s : S) (r : B)
end
mutual
/-- the slots that it stores -/
def S.asg : S → List Nat
  | .set t _ => t.asg
  | .ifs _ a b => a.asg ++ b.asg
  | .fors t _ b => t.asg ++ b.asg
  | .forl t _ b => t.asg ++ b.asg
  | .whl _ b => b.asg
  | .tri b _ i h => i :: (b.asg ++ h.asg)
  | _ => []
def B.asg : B → List Nat
  | .nil => []
  | .cons s r => s.asg ++ r.asg
end

inductive O where
  | nx (E : En) | brk (E : En) | cnt (E : En) | rt (d : D) (E : En) | exc (c : Nat) (d : D) (E : En) | bad
def ixP (n : Nat) (i : Int) : Option Nat := ixN n i
def forGo (t : Tg) (body : En → O) : List D → En → O
  | [], E => .nx E
  | d :: ds, E => match t.bind d E with
    | some E1 => (match body E1 with
      | .nx E2 => forGo t body ds E2
      | .cnt E2 => forGo t body ds E2
      | .brk E2 => .nx E2
      | o => o)
    | none => .bad
/-- over the list (or tuple) at slot i, as it stands at each turn -/
def forLive (t : Tg) (body : En → O) (i : Nat) (k : Kd) : Nat → Nat → En → O
  | 0, _, _ => .bad
  | n + 1, j, E => match E[i]? with
    | some (some l) => if l.kd = k then (match l.items with
      | some xs => (match xs[j]? with
        | none => .nx E
        | some d => if d.fz = true then (match t.bind d E with
          | some E1 => (match body E1 with
            | .nx E2 => forLive t body i k n (j + 1) E2
            | .cnt E2 => forLive t body i k n (j + 1) E2
            | .brk E2 => .nx E2
            | o => o)
          | none => .bad) else .bad)
      | none => .bad) else .bad
    | _ => .bad
def whGo (c : En → R D) (body : En → O) : Nat → En → O
  | 0, _ => .bad
  | n + 1, E => match c E with
    | .ok (.bl true) E1 => (match body E1 with
      | .nx E2 => whGo c body n E2
      | .cnt E2 => whGo c body n E2
      | .brk E2 => .nx E2
      | o => o)
    | .ok (.bl false) E1 => .nx E1
    | .exc c d E1 => .exc c d E1
    | _ => .bad

section
variable (call : Nat → List D → Rr) (W : Nat)
mutual
def ex (cur : Cur) : S → En → O
  | .set t m, E => match ev call cur m E with
    | .ok d E1 => (match t.bind d E1 with
      | some E2 => .nx E2
      | none => .bad)
    | .exc c d E1 => .exc c d E1
    | .bad => .bad
  | .put i ix m, E => match ev call cur m E with
    | .ok d E1 => (match E1[i]?, sv cur E1 ix with
      | some (some (.lst true xs)), some (.int k) => if d.fz = true ∧ fzL xs = true then (match ixP xs.length k with
        | some j => .nx (E1.set i (some (.lst true (xs.set j d))))
        | none => .bad) else .bad
      | _, _ => .bad)
    | .exc c d E1 => .exc c d E1
    | .bad => .bad
  | .putm i ix m, E => match ev call cur m E with
    | .ok d E1 => (match E1[i]? with
      | some (some _) => (match ev call cur ix E1 with
        | .ok (.int k) E2 => (match E2[i]? with
          | some (some (.lst true xs)) => if d.fz = true ∧ fzL xs = true then (match ixP xs.length k with
            | some j => .nx (E2.set i (some (.lst true (xs.set j d))))
            | none => .bad) else .bad
          | _ => .bad)
        | .exc c d E2 => .exc c d E2
        | _ => .bad)
      | _ => .bad)
    | .exc c d E1 => .exc c d E1
    | .bad => .bad
  | .expr m, E => match ev call cur m E with
    | .ok _ E1 => .nx E1
    | .exc c d E1 => .exc c d E1
    | .bad => .bad
  | .ifs c a b, E => match ev call cur c E with
    | .ok (.bl true) E1 => exs cur a E1
    | .ok (.bl false) E1 => exs cur b E1
    | .exc c d E1 => .exc c d E1
    | _ => .bad
  | .fors t src b, E => match evSrc call cur src E with
    | .ok items E1 => forGo t (exs cur b) items E1
    | .exc c d E1 => .exc c d E1
    | .bad => .bad
  | .forl t i b, E => if i ∈ t.asg ++ b.asg then .bad else (match E[i]? with
    | some (some l) => forLive t (exs cur b) i l.kd W 0 E
    | _ => .bad)
  | .whl c b, E => whGo (ev call cur c) (exs cur b) W E
  | .ret m, E => match ev call cur m E with
    | .ok d E1 => .rt d E1
    | .exc c d E1 => .exc c d E1
    | .bad => .bad
  | .retN, E => .rt .non E
  | .brk, E => .brk E
  | .cnt, E => .cnt E
  | .pass, E => .nx E
  | .raise c as, E => match evs call cur as E with
    | .ok [] E1 => .exc c .non E1
    | .ok [d] E1 => .exc c d.frz E1
    | .exc c d E1 => .exc c d E1
    | _ => .bad
  | .fset cs i f m, E => match ev call cur m E with
    | .ok d E1 => (match E1[i]? with
      | some (some (.ins true c ns ds)) => if c ∈ cs ∧ ns.length < 1000 then .nx (E1.set i (some (.ins true c (putN f ns) (putV f d ns ds)))) else .bad
      | _ => .bad)
    | .exc c d E1 => .exc c d E1
    | .bad => .bad
  | .tri b c i h, E => match exs cur b E with
    | .exc c' d E1 => if errSub c' c = true then (if E1.length ≤ i then .bad else match exs (some (c', d)) h (E1.set i none) with
      | .nx E2 => .nx (E2.set i none)
      | .brk E2 => .brk (E2.set i none)
      | .cnt E2 => .cnt (E2.set i none)
      | .rt d2 E2 => .rt d2 E2
      | _ => .bad) else .exc c' d E1
    | o => o
def exs (cur : Cur) : B → En → O
  | .nil, E => .nx E
  | .cons s r, E => match ex cur s E with
    | .nx E1 => exs cur r E1
    | o => o
end
end

/-- a def: parameters, slots, body -/
structure Fn where
  np : Nat
  ns : Nat
  body : B
def fins (asg : List Nat) (E : En) : Nat → List D → Option (List D)
  | _, [] => some []
  | j, d :: ds => match (if j ∈ asg then (if d.fz = true then some d else none) else E[j]?.join), fins asg E (j + 1) ds with
    | some p, some ps => some (p :: ps)
    | _, _ => none
def runFn (call : Nat → List D → Rr) (W : Nat) (fn : Fn) (ds : List D) : Rr :=
  if ds.length = fn.np ∧ fn.np ≤ fn.ns then match exs call W none fn.body (ds.map some ++ List.replicate (fn.ns - fn.np) none) with
    | .nx E => (match fins fn.body.asg E 0 ds with
      | some ps => .ret .non ps
      | none => .bad)
    | .rt d E => (match fins fn.body.asg E 0 ds with
      | some ps => .ret d ps
      | none => .bad)
    | .exc c d E => (match fins fn.body.asg E 0 ds with
      | some ps => .exc c d ps
      | none => .bad)
    | _ => .bad
  else .bad
def run (P : Nat → Option Fn) (W : Nat) : Nat → Nat → List D → Rr
  | 0, _, _ => .bad
  | k + 1, f, ds => match P f with
    | some fn => runFn (run P W k) W fn ds
    | none => .bad
end VM

/-! Part C: slots. -/
namespace VM
open PySem PySem.Spec PyProof.Rows L2

def OwnS (K : PySem.W.Frag) (F : Hp) : Option D → Option V → Fp → Prop
  | none, _, L => L = []
  | some d, s, L => ∃ v, s = some v ∧ Own K F d v L
def OwnE (K : PySem.W.Frag) (F : Hp) : En → L2.St → Fp → Prop
  | [], σ, L => σ = [] ∧ L = []
  | e :: es, σ, L => ∃ s r L1 L2, σ = s :: r ∧ L = L1 ++ L2 ∧ OwnS K F e s L1 ∧ OwnE K F es r L2
section
variable {K : PySem.W.Frag} {F F' : Hp}
theorem OwnS.mono (e : Same F F') {d : Option D} {s : Option V} {L : Fp} (h : OwnS K F d s L) : OwnS K F' d s L := by
  cases d with
  | none => exact h
  | some d =>
    obtain ⟨v, h1, h2⟩ := h
    exact ⟨v, h1, h2.mono e⟩
theorem OwnE.mono (e : Same F F') : ∀ {E : En} {σ : L2.St} {L : Fp}, OwnE K F E σ L → OwnE K F' E σ L
  | [], _, _, h => h
  | _ :: _, _, _, h => by
    obtain ⟨s, r, L1, L2, h1, h2, h3, h4⟩ := h
    exact ⟨s, r, L1, L2, h1, h2, h3.mono e, OwnE.mono e h4⟩
theorem OwnE.len : ∀ {E : En} {σ : L2.St} {L : Fp}, OwnE K F E σ L → E.length = σ.length
  | [], _, _, h => by rw [h.1] <;> rfl
  | _ :: _, _, _, h => by
    obtain ⟨s, r, L1, L2, h1, h2, h3, h4⟩ := h
    rw [h1, List.length_cons, List.length_cons, OwnE.len h4]
/-- slot i read -/
theorem OwnE.get : ∀ {E : En} {σ : L2.St} {L : Fp} {i : Nat} {d : D}, OwnE K F E σ L → E[i]? = some (some d) → ∃ v L1, σ[i]? = some (some v) ∧ List.Sublist L1 L ∧ Own K F d v L1
  | [], _, _, _, _, _, e => by simp at e
  | e :: es, _, _, 0, d, h, q => by
    obtain ⟨s, r, L1, L2, rfl, rfl, h3, h4⟩ := h
    have q' : e = some d := by simpa using q
    subst q'
    obtain ⟨v, rfl, h5⟩ := h3
    exact ⟨v, L1, rfl, List.sublist_append_left _ _, h5⟩
  | e :: es, _, _, i + 1, d, h, q => by
    obtain ⟨s, r, L1, L2, rfl, rfl, h3, h4⟩ := h
    obtain ⟨v, M, e1, e2, e3⟩ := OwnE.get (i := i) (d := d) h4 (by simpa using q)
    exact ⟨v, M, by simpa using e1, e2.trans (List.sublist_append_right _ _), e3⟩
/-- slot i taken out: what it owns, the rest -/
theorem OwnE.take : ∀ {E : En} {σ : L2.St} {L : Fp} {i : Nat} {d : D}, OwnE K F E σ L → E[i]? = some (some d) → ∃ v L1 L2, σ[i]? = some (some v) ∧ Own K F d v L1 ∧ OwnE K F (E.set i none) σ L2 ∧ (L1 ++ L2).Perm L
  | [], _, _, _, _, _, e => by simp at e
  | e :: es, _, _, 0, d, h, q => by
    obtain ⟨s, r, L1, L2, rfl, rfl, h3, h4⟩ := h
    have q' : e = some d := by simpa using q
    subst q'
    obtain ⟨v, rfl, h5⟩ := h3
    exact ⟨v, L1, L2, rfl, h5, ⟨_, _, [], L2, rfl, rfl, rfl, h4⟩, List.Perm.refl _⟩
  | e :: es, _, _, i + 1, d, h, q => by
    obtain ⟨s, r, L1, L2, rfl, rfl, h3, h4⟩ := h
    obtain ⟨v, M1, M2, e1, e2, e3, e4⟩ := OwnE.take (i := i) (d := d) h4 (by simpa using q)
    refine ⟨v, M1, L1 ++ M2, by simpa using e1, e2, ⟨s, r, L1, M2, rfl, rfl, h3, e3⟩, ?_⟩
    exact (List.perm_append_comm_assoc M1 L1 M2).trans (List.Perm.append_left L1 e4)
/-- slot i forgotten, whatever stands there -/
theorem OwnE.drop : ∀ {E : En} {σ : L2.St} {L : Fp} (i : Nat) (s : Option V), OwnE K F E σ L → ∃ L2, OwnE K F (E.set i none) (σ.set i s) L2 ∧ List.Sublist L2 L
  | [], _, _, _, _, h => by
    obtain ⟨rfl, rfl⟩ := h
    exact ⟨[], ⟨rfl, rfl⟩, List.Sublist.refl _⟩
  | e :: es, _, _, 0, s', h => by
    obtain ⟨s, r, L1, L2, rfl, rfl, h3, h4⟩ := h
    exact ⟨L2, ⟨_, _, [], L2, rfl, rfl, rfl, h4⟩, List.sublist_append_right _ _⟩
  | e :: es, _, _, i + 1, s', h => by
    obtain ⟨s, r, L1, L2, rfl, rfl, h3, h4⟩ := h
    obtain ⟨M, e1, e2⟩ := OwnE.drop i s' h4
    exact ⟨L1 ++ M, ⟨s, _, L1, M, rfl, rfl, h3, e1⟩, List.Sublist.append_left e2 L1⟩
/-- a forgotten slot's value does not matter -/
theorem OwnE.any : ∀ {E : En} {σ : L2.St} {L : Fp} {i : Nat} (s : Option V), OwnE K F E σ L → E[i]? = some none → OwnE K F E (σ.set i s) L
  | [], _, _, _, _, h, e => by simp at e
  | e :: es, _, _, 0, s', h, q => by
    obtain ⟨s, r, L1, L2, rfl, rfl, h3, h4⟩ := h
    have q' : e = none := by simpa using q
    subst q'
    exact ⟨s', r, L1, L2, rfl, rfl, h3, h4⟩
  | e :: es, _, _, i + 1, s', h, q => by
    obtain ⟨s, r, L1, L2, rfl, rfl, h3, h4⟩ := h
    exact ⟨s, _, L1, L2, rfl, rfl, h3, OwnE.any s' h4 (by simpa using q)⟩
/-- slot i filled -/
theorem OwnE.fill : ∀ {E : En} {σ : L2.St} {L : Fp} {i : Nat} {d : D} {v : V} {M : Fp}, OwnE K F E σ L → E[i]? = some none → σ[i]? = some (some v) → Own K F d v M → ∃ L', OwnE K F (E.set i (some d)) σ L' ∧ L'.Perm (M ++ L)
  | [], _, _, _, _, _, _, h, e, _, _ => by simp at e
  | e :: es, _, _, 0, d, v, M, h, q, q2, o => by
    obtain ⟨s, r, L1, L2, rfl, rfl, h3, h4⟩ := h
    have q' : e = none := by simpa using q
    subst q'
    have e1 : s = some v := by simpa using q2
    subst e1
    obtain rfl : L1 = [] := h3
    exact ⟨M ++ L2, ⟨_, r, M, L2, rfl, rfl, ⟨v, rfl, o⟩, h4⟩, List.Perm.refl _⟩
  | e :: es, _, _, i + 1, d, v, M, h, q, q2, o => by
    obtain ⟨s, r, L1, L2, rfl, rfl, h3, h4⟩ := h
    obtain ⟨L', e1, e2⟩ := OwnE.fill (i := i) h4 (by simpa using q) (by simpa using q2) o
    exact ⟨L1 ++ L', ⟨s, r, L1, L', rfl, rfl, h3, e1⟩, (List.Perm.append_left L1 e2).trans (List.perm_append_comm_assoc L1 M L2)⟩
theorem set_set {α : Type} (l : List α) (i : Nat) (a b : α) : (l.set i a).set i b = l.set i b := by
  induction l generalizing i with
  | nil => rfl
  | cons x l ih =>
    cases i with
    | zero => rfl
    | succ i => show x :: (l.set i a).set i b = x :: l.set i b; rw [ih]
theorem get_set {α : Type} {l : List α} {i : Nat} {a : α} (h : i < l.length) : (l.set i a)[i]? = some a := by
  rw [List.getElem?_set_self h]
/-- slot i stored anew -/
theorem OwnE.store {E : En} {σ : L2.St} {L : Fp} {i : Nat} {d : D} {v : V} {M : Fp} (h : OwnE K F E σ L) (hi : i < E.length) (o : Own K F d v M) : ∃ L' R, OwnE K F (E.set i (some d)) (σ.set i (some v)) L' ∧ L'.Perm (M ++ R) ∧ List.Sublist R L := by
  obtain ⟨R, h1, h2⟩ := h.drop i (some v)
  have hi' : i < σ.length := by rw [← h.len]; exact hi
  obtain ⟨L', h3, h4⟩ := h1.fill (i := i) (d := d) (v := v) (M := M) (get_set hi) (get_set hi') o
  rw [set_set] at h3
  exact ⟨L', R, h3, h4, h2⟩
theorem OwnE.none_ : ∀ {n : Nat}, OwnE K F (List.replicate n none) (List.replicate n none) []
  | 0 => ⟨rfl, rfl⟩
  | n + 1 => ⟨none, List.replicate n none, [], [], rfl, rfl, rfl, OwnE.none_⟩
theorem OwnE.start : ∀ {ds : List D} {vs : List V} {L : Fp} {n : Nat}, OwnL K F ds vs L → OwnE K F (ds.map some ++ List.replicate n none) (vs.map some ++ List.replicate n none) L
  | [], _, _, n, h => by
    obtain ⟨rfl, rfl⟩ := h
    exact OwnE.none_
  | d :: ds, _, _, n, h => by
    obtain ⟨v, r, L1, L2, rfl, rfl, h3, h4⟩ := h
    exact ⟨some v, _, L1, L2, rfl, rfl, ⟨v, rfl, h3⟩, OwnE.start h4⟩
/-- what the parameters are in the end -/
theorem OwnE.fins {asg : List Nat} {E0 : En} {σ0 : L2.St} : ∀ {ds : List D} {vs : List V} {L : Fp} {j : Nat} {ps : List D} {E : En} {σ : L2.St} {M : Fp}, OwnL K F ds vs L → VM.fins asg E0 j ds = some ps →
    (∀ i, E0[j + i]? = E[i]?) → (∀ i, σ0[j + i]? = σ[i]?) → (∀ i v, j + i ∉ asg → vs[i]? = some v → σ0[j + i]? = some (some v)) → OwnE K F E σ M → ∃ L', OwnL K F ps vs L' ∧ List.Sublist L' M
  | [], _, _, j, ps, E, σ, M, h, e, _, _, _, _ => by
    obtain ⟨rfl, rfl⟩ := h
    unfold VM.fins at e
    cases e
    exact ⟨[], ⟨rfl, rfl⟩, List.nil_sublist _⟩
  | d :: ds, _, _, j, ps, E, σ, M, h, e, hE, hσ, hv, o => by
    obtain ⟨v, r, L1, L2, rfl, rfl, h3, h4⟩ := h
    unfold VM.fins at e
    have hj : ∀ i, j + (i + 1) = j + 1 + i := fun i => by omega
    split at e
    · rename_i p qs e1 e2
      cases e
      have hv0 := hv 0 v
      rw [Nat.add_zero] at hv0
      cases E with
      | nil =>
        have hE0 := hE 0
        rw [Nat.add_zero] at hE0
        obtain ⟨rfl, rfl⟩ := o
        by_cases hm : j ∈ asg
        · rw [if_pos hm] at e1
          split at e1
          · rename_i hf
            cases e1
            have := OwnE.fins (j := j + 1) (E := []) (σ := []) (M := []) h4 e2 (fun i => by rw [← hj, hE (i + 1)] <;> simp) (fun i => by rw [← hj, hσ (i + 1)] <;> simp)
              (fun i u hm hu => by rw [← hj] at hm ⊢; exact hv (i + 1) u hm (by simpa using hu)) ⟨rfl, rfl⟩
            obtain ⟨L', q1, q2⟩ := this
            have l1 := Own.fz_nil hf h3
            subst l1
            exact ⟨[] ++ L', ⟨v, r, [], L', rfl, rfl, h3, q1⟩, by simpa using q2⟩
          · cases e1
        · rw [if_neg hm, hE0] at e1
          simp at e1
      | cons s es =>
        obtain ⟨t, rr, M1, M2, rfl, rfl, o3, o4⟩ := o
        obtain ⟨L', q1, q2⟩ := OwnE.fins (j := j + 1) (E := es) (σ := rr) (M := M2) h4 e2 (fun i => by rw [← hj, hE (i + 1)] <;> simp) (fun i => by rw [← hj, hσ (i + 1)] <;> simp)
              (fun i u hm hu => by rw [← hj] at hm ⊢; exact hv (i + 1) u hm (by simpa using hu)) o4
        by_cases hm : j ∈ asg
        · rw [if_pos hm] at e1
          split at e1
          · rename_i hf
            cases e1
            have l1 := Own.fz_nil hf h3
            subst l1
            exact ⟨[] ++ L', ⟨v, r, [], L', rfl, rfl, h3, q1⟩, by
              rw [List.nil_append]
              exact q2.trans (List.sublist_append_right _ _)⟩
          · cases e1
        · rw [if_neg hm] at e1
          have hE0 := hE 0
          have hσ0 := hσ 0
          rw [Nat.add_zero] at hE0 hσ0
          rw [hE0] at e1
          have es : s = some p := by simpa using e1
          subst es
          obtain ⟨u, rfl, o5⟩ := o3
          have z := hv0 hm (by simp)
          rw [hσ0] at z
          have ez : u = v := by simpa using z
          subst ez
          exact ⟨M1 ++ L', ⟨u, r, M1, L', rfl, rfl, o5, q1⟩, List.Sublist.append (List.Sublist.refl _) q2⟩
    · cases e
end
end VM

namespace VM
open PySem L2
/-- a part, in any order -/
def Prt (A B : Fp) : Prop := ∃ C : Fp, (A ++ C).Perm B
theorem Prt.refl (A : Fp) : Prt A A := ⟨[], by rw [List.append_nil]⟩
theorem Prt.trans {A B C : Fp} (h : Prt A B) (k : Prt B C) : Prt A C := by
  obtain ⟨X, h⟩ := h
  obtain ⟨Y, k⟩ := k
  refine ⟨X ++ Y, ?_⟩
  rw [← List.append_assoc]
  exact (h.append_right Y).trans k
theorem Prt.of_sub {A B : Fp} (h : List.Sublist A B) : Prt A B := by
  induction h with
  | slnil => exact Prt.refl _
  | cons a _ ih =>
    obtain ⟨C, ih⟩ := ih
    exact ⟨a :: C, List.perm_middle.trans (ih.cons a)⟩
  | cons_cons a _ ih =>
    obtain ⟨C, ih⟩ := ih
    exact ⟨C, ih.cons a⟩
theorem Prt.of_perm {A B : Fp} (h : A.Perm B) : Prt A B := ⟨[], by rw [List.append_nil]; exact h⟩
theorem Prt.app {A B A' B' : Fp} (h : Prt A B) (k : Prt A' B') : Prt (A ++ A') (B ++ B') := by
  obtain ⟨X, h⟩ := h
  obtain ⟨Y, k⟩ := k
  refine ⟨X ++ Y, ?_⟩
  have e : ((A ++ A') ++ (X ++ Y)).Perm ((A ++ X) ++ (A' ++ Y)) := by
    rw [List.append_assoc, List.append_assoc]
    refine List.Perm.append_left A ?_
    exact List.perm_append_comm_assoc A' X Y
  exact e.trans (h.append k)
theorem Prt.left {A B : Fp} : Prt A (A ++ B) := ⟨B, List.Perm.refl _⟩
theorem Prt.right {A B : Fp} : Prt B (A ++ B) := ⟨A, List.perm_append_comm⟩
theorem Prt.nil {A : Fp} : Prt [] A := ⟨A, List.Perm.refl _⟩
theorem Prt.swap {A B : Fp} : Prt (A ++ B) (B ++ A) := Prt.of_perm List.perm_append_comm
theorem Prt.mem {A B : Fp} (h : Prt A B) : ∀ p ∈ A, p ∈ B := fun p hp => by
  obtain ⟨X, h⟩ := h
  exact h.mem_iff.mp (List.mem_append_left _ hp)
theorem Ok.prt {F : Hp} {L L' : Fp} {H : Hp} (o : Ok F L H) (s : Prt L' L) : Ok F L' H := by
  obtain ⟨C, s⟩ := s
  exact (o.perm s).left
theorem Step.prt {F F' : Hp} {L L' L'' : Fp} {H H' : Hp} (s : Step F L H F' L' H') (t : Prt L'' L') : Step F L H F' L'' H' :=
  ⟨s.ok.prt t, s.ff, s.keep, fun p hp => s.fresh p (t.mem p hp), s.freshF, s.dom, s.tab⟩
section
variable {K : PySem.W.Frag} {F : Hp}
theorem OwnE.storeS {E : En} {σ : L2.St} {L : Fp} {i : Nat} {d : D} {v : V} {M : Fp} (h : OwnE K F E σ L) (hi : i < E.length) (o : Own K F d v M) : ∃ L', OwnE K F (E.set i (some d)) (σ.set i (some v)) L' ∧ Prt L' (M ++ L) := by
  obtain ⟨L', R, h1, h2, h3⟩ := h.store hi o
  exact ⟨L', h1, (Prt.of_perm h2).trans (Prt.app (Prt.refl M) (Prt.of_sub h3))⟩
theorem OwnE.fillS {E : En} {σ : L2.St} {L : Fp} {i : Nat} {d : D} {v : V} {M : Fp} (h : OwnE K F E σ L) (e : E[i]? = some none) (hv : σ[i]? = some (some v)) (o : Own K F d v M) : ∃ L', OwnE K F (E.set i (some d)) σ L' ∧ Prt L' (M ++ L) := by
  obtain ⟨L', h1, h2⟩ := h.fill e hv o
  exact ⟨L', h1, Prt.of_perm h2⟩
end
end VM

/-! Part D: the judgements; plain expressions. -/
namespace VM
open PySem PySem.Spec L2

theorem PE.imp {X : Cx} {e : Expr} {t t' : TE} (h : PE X e t) (i : ∀ σ H Q, t' σ H Q → t σ H Q) : PE X e t' := ⟨fun pins s σ H Q I q => h.run pins s σ H Q I (i σ H Q q)⟩
theorem PT.imp {X : Cx} {e : Expr} {t t' : TT} (h : PT X e t) (i : ∀ σ H Q, t' σ H Q → t σ H Q) : PT X e t' := ⟨fun pins s σ H Q I q => h.run pins s σ H Q I (i σ H Q q)⟩
theorem PW.imp {X : Cx} {e : Expr} {t t' : TT} (h : PW X e t) (i : ∀ σ H Q, t' σ H Q → t σ H Q) : PW X e t' := ⟨fun w pins s σ H Q I q => h.run w pins s σ H Q I (i σ H Q q)⟩
theorem PA.imp {X : Cx} {e : List Expr} {t t' : TA} (h : PA X e t) (i : ∀ σ H Q, t' σ H Q → t σ H Q) : PA X e t' := ⟨fun p pins s σ H Q I q => h.run p pins s σ H Q I (i σ H Q q)⟩
theorem PS.imp {X : Cx} {e : Stmt} {t t' : TS} (h : PS X e t) (i : ∀ D σ H, t' D σ H → t D σ H) : PS X e t' := ⟨fun pins s σ H D I q => h.run pins s σ H D I (i D σ H q)⟩
theorem PSs.imp {X : Cx} {e : List Stmt} {t t' : TS} (h : PSs X e t) (i : ∀ D σ H, t' D σ H → t D σ H) : PSs X e t' := ⟨fun pins s σ H D I q => h.run pins s σ H D I (i D σ H q)⟩

/-- an error as data, as it lies: its class, its own dict -/
def ExcIs (K : PySem.W.Frag) (mg : Str → Option Value) (enm : Nat → Option Str) (F : Hp) (c : Nat) (d : D) (cls : Value) (dd : Option Addr) : Prop :=
  ∃ x C a v, enm c = some x ∧ mg x = some (.ref C) ∧ cls = .ref C ∧ dd = some a ∧ F a = some (.xd [(("value" : Str), v)]) ∧ Own K F d v []
theorem ExcIs.mono {K : PySem.W.Frag} {mg : Str → Option Value} {enm : Nat → Option Str} {F F' : Hp} {c : Nat} {d : D} {cls : Value} {dd : Option Addr} (e : Same F F') (h : ExcIs K mg enm F c d cls dd) : ExcIs K mg enm F' c d cls dd := by
  obtain ⟨x, C, a, v, h1, h2, h3, h4, h5, h6⟩ := h
  exact ⟨x, C, a, v, h1, h2, h3, h4, e _ _ h5, h6.mono e⟩
def CurOk (K : PySem.W.Frag) (mg : Str → Option Value) (enm : Nat → Option Str) (F : Hp) (cu : Option (Value × Option Addr)) (cur : Cur) : Prop := match cu, cur with
  | none, none => True
  | some p, some q => ExcIs K mg enm F q.1 q.2 p.1 p.2
  | _, _ => False
theorem CurOk.mono {K : PySem.W.Frag} {mg : Str → Option Value} {enm : Nat → Option Str} {F F' : Hp} {cu : Option (Value × Option Addr)} {cur : Cur} (e : Same F F') (h : CurOk K mg enm F cu cur) : CurOk K mg enm F' cu cur := by
  cases cu <;> cases cur <;> first | exact h | exact ExcIs.mono e h

/-- the promise of a def whose doings are data -/
def spRun (K : PySem.W.Frag) (mg : Str → Option Value) (enm : Nat → Option Str) (tbs : Addr → Prop) (call : Nat → List D → Rr) (f : Nat) : Sp := fun vs H Q E => ∃ F L ds, Ok F L H ∧ OwnL K F ds vs L ∧ (∀ P, tbs P → GxR.TabG H P) ∧ match call f ds with
  | .ret d ps => ∀ v H' F' L1 L2, Step F L H F' (L2 ++ L1) H' → OwnL K F' ps vs L1 → Own K F' d v L2 → Q v H'
  | .exc c d ps => ∀ cls dd H' F' L1, Step F L H F' L1 H' → OwnL K F' ps vs L1 → ExcIs K mg enm F' c d cls dd → E cls dd H'
  | .bad => False

/-- what is known of the text where one stands -/
structure Ctx where
  N : List Str
  sc : Scope
  call : Nat → List D → Rr
  W : Nat
  lev : Nat
  calm : Bool
  body : Bool
  cu : Option (Value × Option Addr)
  fnm : Nat → Option Str
  enm : Nat → Option Str
  free : List Str
  gl : Str → Option D
  tbs : Addr → Prop
  hv : Option (Nat × Addr)
  cla : Str → Bool
  fat : Str → Str → Bool
  mth : Nat → Option (Str × Str)

/-- MadeError.__init__(self, value): self.value = value -/
def spInit (K : PySem.W.Frag) : Sp := fun vs H Q _ => ∃ (a C : Addr) (y : V), vs = [.ref a, y] ∧ OexC K C ∧ PySem.W.findIn K (.ref C) "value" = some none ∧ H a = some (exo a C none) ∧
  ∀ dx, H dx = none → dx ≠ a → Q .non (upd (upd H dx (exd dx [(("value" : Str), y)])) a (exo a C (some dx)))
/-- what is known of an error's class -/
structure ErrC (X : Cx) (x : Str) (C : Addr) : Prop where
  g : X.mg x = some (.ref C)
  ga : C = He.ga X.K x
  c : OexC X.K C
  no : PySem.W.findIn X.K (.ref C) "value" = some none
  xf : XfC X.K C
  ini : ∃ fI fd ps, PySem.W.findIn X.K (.ref C) "__init__" = some (some (.ref fI)) ∧ PySem.W.typeIn X.K (.ref fI) = some (.type "function") ∧ FnOk X.prog X.w X.K X.mg X.base CX0 1 fI fd ps (spInit X.K) ∧ Binds X.K fd ps [] ∧ ∃ ds, Vals [.non] ds ∧ Binds X.K fd ps ds
  is : ExIs X.K C
/-- a def's promise where no guard stands below -/
structure FnG (P : Program) (w : World) (K : PySem.W.Frag) (mg : Str → Option Value) (base : Heap) (lev : Nat) (f : Addr) (fd : FuncData) (ps : List Str) (sp : Sp) : Prop where
  many : ∀ {vs H Q E}, sp vs H Q E → vs.length = ps.length
  runs : ∀ {A outer s H args us vs Q E}, A.guards = some [] → Room lev A → Env0 P w K mg base A outer s H → BindsTo s fd args (ps.zip us) → Vals vs us → sp vs H Q E → codeAny (model P w) A (.call (.ref f) args) (CR (L2.CX P w) outer P w H s Q E) s
theorem FnG.of {P : Program} {w : World} {K : PySem.W.Frag} {mg : Str → Option Value} {base : Heap} {lev : Nat} {f : Addr} {fd : FuncData} {ps : List Str} {sp : Sp} (F : FnOk P w K mg base (L2.CX P w) lev f fd ps sp) : FnG P w K mg base lev f fd ps sp :=
  ⟨fun h => F.len _ _ _ _ h, fun _ r e b v h => F.run _ _ _ _ _ _ _ _ _ r e b v h⟩
structure CtxOk (Γ : Ctx) (X : Cx) (W : WX) : Prop where
  n : X.N = Γ.N
  nd : X.N.Nodup
  sc : X.env.scope = Γ.sc
  calm : Γ.calm = true → X.calm = true
  tk : Takes X W
  po : PassesOwn (model X.prog X.w) X.A X.env X.xe
  rm1 : Γ.calm = true → Room (Γ.lev + 1) X.A
  rm2 : Γ.calm = true → Room 2 X.A
  un : X.A.units + 66 < cLine
  fns : ∀ f x, Γ.fnm f = some x → ∃ a fd ps, X.mg x = some (.ref a) ∧ PySem.W.keepIn X.K (.ref a) = true ∧ Binds X.K fd ps [] ∧ FnG X.prog X.w X.K X.mg X.base Γ.lev a fd ps (spRun X.K X.mg Γ.enm Γ.tbs Γ.call f)
  gd : X.A.guards = some []
  cla : ∀ c, Γ.cla c = true → X.mg c = some (.ref (He.ga X.K c)) ∧ ClsK X.K c ∧ PySem.W.makesIn X.K (He.ga X.K c) = true ∧ PySem.W.keepIn X.K (.ref (He.ga X.K c)) = true ∧ PySem.W.kitOne X.K (.ref (He.ga X.K c)) (.ref (He.ga X.K c)) = some true ∧
    (∀ k : Kd, k ≠ .ins → PySem.W.kitOne X.K (.type k.nm) (.ref (He.ga X.K c)) = some false) ∧ ∀ c', Γ.cla c' = true → PySem.W.kitOne X.K (.ref (He.ga X.K c')) (.ref (He.ga X.K c)) = some (c' == c)
  fat : ∀ c f, Γ.fat c f = true → Γ.cla c = true ∧ NoAttr X.K (He.ga X.K c) f
  mth : ∀ f c m, Γ.mth f = some (c, m) → Γ.cla c = true ∧ PySem.W.findIn X.K (.ref (He.ga X.K c)) m = some (some (.ref (He.ma X.K (He.ga X.K c) m))) ∧ PySem.W.isFn X.K (.ref (He.ma X.K (He.ga X.K c) m)) = true ∧
    ∃ fd ps, Binds X.K fd ps [] ∧ FnG X.prog X.w X.K X.mg X.base Γ.lev (He.ma X.K (He.ga X.K c) m) fd ps (spRun X.K X.mg Γ.enm Γ.tbs Γ.call f)
  free : ∀ x ∈ Γ.free, X.mg x = none
  bd : Γ.body = true → X.stack = X.env :: X.outer ∧ X.env.frame = some X.env.locals ∧ X.ex = [] ∧ ∀ x, X.fn x = true
  gl : ∀ x d, Γ.gl x = some d → ∃ u v, X.mg x = some u ∧ RelV v u ∧ ∀ F, Own X.K F d v []
  errs : ∀ c x, Γ.enm c = some x → ∃ C, ErrC X x C
  exms : ∀ c x c' x', Γ.enm c = some x → Γ.enm c' = some x' → ∃ C C', X.mg x = some (.ref C) ∧ X.mg x' = some (.ref C') ∧ PySem.W.exmOne X.K (.ref C) (.ref C') = some (errSub c c') ∧ PySem.W.kitOne X.K (.ref C) (.ref C') = some (errSub c c')
  cold : Γ.calm = true → Γ.cu = none
  coldv : Γ.calm = true → Γ.hv = none
  hot : ∀ cls d, Γ.cu = some (cls, d) → ∃ X0 a oe pn, X = Cx.suite X0 a ((a, oe) :: pn) ∧ Zc cls d oe ∧ (∃ vs, oe.data = .fields vs) ∧ ∃ i, Γ.hv = some (i, a)

theorem CtxOk.rm {Γ : Ctx} {X : Cx} {W : WX} (c : CtxOk Γ X W) (h : Γ.calm = true) : Room Γ.lev X.A := (c.rm1 h).mono (Nat.le_succ _)
structure Rel (Γ : Ctx) (X : Cx) (cur : Cur) (E : En) (F : Hp) (L : Fp) (σ : L2.St) (H : Hp) : Prop where
  ok : Ok F L H
  own : OwnE X.K F E σ L
  cur : CurOk X.K X.mg Γ.enm F Γ.cu cur
  tab : ∀ P, Γ.tbs P → GxR.TabG H P
  hv : ∀ i a, Γ.hv = some (i, a) → σ[i]? = some (some (.ref a))
theorem Rel.step {Γ : Ctx} {X : Cx} {cur : Cur} {E : En} {F F' : Hp} {L : Fp} {σ : L2.St} {H H' : Hp} (r : Rel Γ X cur E F L σ H) (s : Step F L H F' L H') : Rel Γ X cur E F' L σ H' := ⟨s.ok, r.own.mono s.ff, r.cur.mono s.ff, fun P h => s.tab P (r.tab P h), r.hv⟩

def tS (Γ : Ctx) (X : Cx) (m : Sx) : TE := fun σ H Q => ∃ F L E cur d, Rel Γ X cur E F L σ H ∧ sv cur E m = some d ∧ ∀ v H' F' L', Step F L H F' L H' → (∀ p ∈ L', p ∈ L) → Own X.K F' d v L' → Q v H'
def tSs (Γ : Ctx) (X : Cx) (m : Sxs) : TA := fun σ H Q => ∃ F L E cur ds, Rel Γ X cur E F L σ H ∧ svs cur E m = some ds ∧ ∀ vs H' F' L', Step F L H F' L H' → (∀ p ∈ L', p ∈ L) → OwnL X.K F' ds vs L' → Q vs H'
def GX (Γ : Ctx) (e : Expr) (m : Sx) : Prop := ∀ X W, CtxOk Γ X W → PE X e (tS Γ X m)
def GXT (Γ : Ctx) (e : Expr) (m : Sx) : Prop := ∀ X W, CtxOk Γ X W → PT X e (tB (tS Γ X m))
def GXW (Γ : Ctx) (e : Expr) (m : Sx) : Prop := ∀ X W, CtxOk Γ X W → PW X e (tB (tS Γ X m))
def GXA (Γ : Ctx) (es : List Expr) (m : Sxs) : Prop := ∀ X W, CtxOk Γ X W → PA X es (tSs Γ X m)
/-- no star -/
def NS (e : Expr) : Prop := ∀ (es : List Expr) (env : PySem.Env), starEach (e :: es) env = (false, eval e env) :: starEach es env
/-- a test that is read as it stands -/
def TV (a : Expr) : Prop := ∀ (env : PySem.Env) whole, isTrue a env whole = (do let v ← whole; standAt a.pos; holding [v] (truthy v))

section
variable {Γ : Ctx} {pos : Pos}
theorem sub_of {L L' : Fp} (h : List.Sublist L' L) : ∀ p ∈ L', p ∈ L := fun _ hp => h.mem hp

/-! ### names, constants -/
theorem gx_var {i : Nat} {x : Str} (hN : Γ.N[i]? = some x := by rfl) (hv : Vis Γ.sc x := by first | exact Or.inl rfl | exact Or.inr (Or.inl rfl) | exact Or.inr (Or.inr rfl)) (hd : (x == ("__debug__" : Str)) = false := by decide) (hcd : (x == ("__classdict__" : Str)) = false := by decide) :
    GX Γ (.Name x pos) (.var i) := fun X W c => PE.imp (pe_var (by rw [c.n]; exact hN) (by rw [c.sc]; exact hv) hd hcd) fun σ H Q h => by
  obtain ⟨F, L, E, cur, d, r, e, q⟩ := h
  have e' : E[i]? = some (some d) := by
    have e : (E[i]?).join = some d := e
    cases z : E[i]? with
    | none => rw [z] at e; cases e
    | some o =>
      rw [z] at e
      cases o with
      | none => cases e
      | some d' =>
        have : d' = d := by simpa using e
        rw [this]
  obtain ⟨v, L1, h1, h2, h3⟩ := r.own.get e'
  exact ⟨v, h1, q v H F L1 (Step.refl r.ok) (sub_of h2) h3⟩
theorem gx_cst {X : Cx} {e : Expr} {v : V} {d : D} (h : PE X e (tC v)) (o : ∀ F, Own X.K F d v []) : PE X e (tS Γ X (.cst d)) := PE.imp h fun σ H Q h => by
  obtain ⟨F, L, E, cur, d', r, e, q⟩ := h
  cases e
  exact q v H F [] (Step.refl r.ok) (fun p hp => by cases hp) (o _)
theorem gx_int {i j} : GX Γ (.Constant (.int i) j pos) (.cst (.int i)) := fun X W c => gx_cst pe_int fun _ => ⟨rfl, rfl⟩
theorem gx_bl {i j} : GX Γ (.Constant (.bool i) j pos) (.cst (.bl i)) := fun X W c => gx_cst pe_bl fun _ => ⟨rfl, rfl⟩
theorem gx_str {i j} : GX Γ (.Constant (.str i) j pos) (.cst (.str i)) := fun X W c => gx_cst pe_str fun _ => ⟨rfl, rfl⟩
theorem gx_non {j} : GX Γ (.Constant .none j pos) (.cst .non) := fun X W c => gx_cst pe_non fun _ => ⟨rfl, rfl⟩
theorem gl_of {X : Cx} {W : WX} (c : CtxOk Γ X W) {x : Str} {k : NameKind} (h : Γ.sc.names.lookup x = some k) : X.env.kindOf x = some k := by
  show X.env.scope.names.lookup x = some k
  rw [c.sc]
  exact h
/-- a name of the module, or built in -/
abbrev Glb (Γ : Ctx) (x : Str) : Prop := Γ.sc.names.lookup x = some .globalImplicit
abbrev Fre (Γ : Ctx) (x : Str) : Prop := Γ.free.contains x = true
/-- a constant of the module -/
theorem gx_glo {x : Str} {d : D} (g : Γ.gl x = some d := by rfl) (hg : Γ.sc.names.lookup x = some .globalImplicit := by rfl) (hd : (x == ("__debug__" : Str)) = false := by decide) : GX Γ (.Name x pos) (.cst d) := fun X W c => by
  obtain ⟨u, v, h1, h2, h3⟩ := c.gl x d g
  exact gx_cst (pe_glob (gl_of c hg) h1 h2 hd) h3

/-! ### operations -/
/-- f says what r wants: of one value, of two, of several -/
def OpS1 (K : PySem.W.Frag) (f : D → Option D) (r : V → Hp → VK → Prop) : Prop := ∀ F H d v L d' Q, Same F H → InH L H → Own K F d v L → f d = some d' → (∀ v' L', List.Sublist L' L → Own K F d' v' L' → Q v' H) → r v H Q
def OpS2 (K : PySem.W.Frag) (f : D → D → Option D) (r : R2) : Prop := ∀ F H d1 d2 v1 v2 L1 L2 d' Q, Same F H → InH L1 H → InH L2 H → Own K F d1 v1 L1 → Own K F d2 v2 L2 → f d1 d2 = some d' → (∀ v' L', List.Sublist L' (L1 ++ L2) → Own K F d' v' L' → Q v' H) → r v1 v2 H Q
def OpSL (K : PySem.W.Frag) (f : List D → Option D) (r : List V → Hp → VK → Prop) : Prop := ∀ F H ds vs L d' Q, Same F H → InH L H → OwnL K F ds vs L → f ds = some d' → (∀ v' L', List.Sublist L' L → Own K F d' v' L' → Q v' H) → r vs H Q
theorem InH.of {L M : Fp} {H : Hp} (h : InH L H) (s : ∀ p ∈ M, p ∈ L) : InH M H := fun p hp => h p (s p hp)
theorem svs_one {cur : Cur} {E : En} {a : Sx} {d : D} (h : sv cur E a = some d) : svs cur E (.cons a .nil) = some [d] := by
  show (match sv cur E a, svs cur E .nil with | some d, some ds => some (d :: ds) | _, _ => none) = _
  rw [h] <;> rfl
theorem svs_cons_inv {cur : Cur} {E : En} {a : Sx} {r : Sxs} {ds : List D} (h : svs cur E (.cons a r) = some ds) : ∃ d es, sv cur E a = some d ∧ svs cur E r = some es ∧ ds = d :: es := by
  have h : (match sv cur E a, svs cur E r with | some d, some ds => some (d :: ds) | _, _ => none) = some ds := h
  split at h
  · rename_i d es h1 h2
    cases h
    exact ⟨d, es, h1, h2, rfl⟩
  · cases h
theorem svs_nil_inv {cur : Cur} {E : En} {ds : List D} (h : svs cur E .nil = some ds) : ds = [] := by cases h; rfl
/-- two plain operands, then a rule by values -/
theorem two_of {X : Cx} {W : WX} {a b : Expr} {sa sb : Sx} {o : Op} {r : R2} (c : CtxOk Γ X W) (hs : OpS2 X.K (fun x y => bop o [x, y]) r) : ∀ σ H Q, tS Γ X (.op o (.cons sa (.cons sb .nil))) σ H Q → tOp r (tS Γ X sa) (tS Γ X sb) σ H Q := fun σ H Q h => by
  obtain ⟨F, L, E, cur, d, rl, e, q⟩ := h
  have e : (svs cur E (.cons sa (.cons sb .nil))).bind (bop o) = some d := e
  obtain ⟨ds, e1, e2⟩ := Option.bind_eq_some_iff.mp e
  obtain ⟨d1, es, e3, e4, rfl⟩ := svs_cons_inv e1
  obtain ⟨d2, es, e5, e6, rfl⟩ := svs_cons_inv e4
  obtain rfl := svs_nil_inv e6
  refine ⟨F, L, E, cur, d1, rl, e3, fun v1 H1 F1 L1 s1 p1 o1 => ⟨F1, L, E, cur, d2, rl.step s1, e5, fun v2 H2 F2 L2 s2 p2 o2 => ?_⟩⟩
  exact hs F2 H2 d1 d2 v1 v2 L1 L2 d _ s2.ok.fH (s2.ok.inH.of p1) (s2.ok.inH.of p2) (o1.mono s2.ff) o2 e2 fun v' L' hl o' => q v' H2 F2 L' (s1.trans s2) (fun p hp => by
    rcases List.mem_append.mp (hl.mem hp) with z | z
    · exact p1 p z
    · exact p2 p z) o'
theorem gx_bin {a b : Expr} {sa sb : Sx} {op : Operator} {o : Op} {r : Cx → R2} (ho : ∀ X, OpR X (binaryOp op) (r X)) (hs : ∀ X : Cx, OpS2 X.K (fun x y => bop o [x, y]) (r X)) (ha : GX Γ a sa) (hb : GX Γ b sb) : GX Γ (.BinOp a op b pos) (.op o (.cons sa (.cons sb .nil))) := fun X W c =>
  PE.imp (pe_op (ho X) (ha X W c) (hb X W c)) (two_of (a := a) (b := b) c (hs X))
/-- a comparison: the rule may want room -/
def CmpRule (op : CmpOp) (o : Op) : Prop := ∀ X : Cx, X.A.units + 66 < cLine → ∃ r, OpR X (compareOp op) r ∧ OpS2 X.K (fun x y => bop o [x, y]) r
theorem gx_cmp {a b : Expr} {sa sb : Sx} {op : CmpOp} {o : Op} (ho : CmpRule op o) (ha : GX Γ a sa) (hb : GX Γ b sb) (hm : behindInMarks op b = false := by rfl) : GX Γ (.Compare a [op] [b] pos) (.op o (.cons sa (.cons sb .nil))) := fun X W c => by
  obtain ⟨r, h1, h2⟩ := ho X c.un
  exact PE.imp (pe_cmpR h1 (ha X W c) (hb X W c) hm) (two_of (a := a) (b := b) c h2)
theorem gxt_cmp {a b : Expr} {sa sb : Sx} {op : CmpOp} {o : Op} (ho : CmpRule op o) (ha : GX Γ a sa) (hb : GX Γ b sb) (hm : behindInMarks op b = false := by rfl) : GXT Γ (.Compare a [op] [b] pos) (.op o (.cons sa (.cons sb .nil))) := fun X W c => by
  obtain ⟨r, h1, h2⟩ := ho X c.un
  exact PT.imp (pt_cmpR h1 (ha X W c) (hb X W c) hm) fun σ H Q h => two_of (a := a) (b := b) c h2 σ H _ h
theorem gx_un {a : Expr} {sa : Sx} {op : UnaryOp} {o : Op} {r : Cx → V → Hp → VK → Prop} (ho : ∀ X, UnR X (unaryOp op) (r X)) (hs : ∀ X : Cx, OpS1 X.K (fun x => bop o [x]) (r X)) (ha : GX Γ a sa) : GX Γ (.UnaryOp op a pos) (.op o (.cons sa .nil)) := fun X W c =>
  PE.imp (pe_un (ho X) (ha X W c)) fun σ H Q h => by
    obtain ⟨F, L, E, cur, d, rl, e, q⟩ := h
    have e : (svs cur E (.cons sa .nil)).bind (bop o) = some d := e
    obtain ⟨ds, e1, e2⟩ := Option.bind_eq_some_iff.mp e
    obtain ⟨d1, es, e3, e4, rfl⟩ := svs_cons_inv e1
    obtain rfl := svs_nil_inv e4
    refine ⟨F, L, E, cur, d1, rl, e3, fun v1 H1 F1 L1 s1 p1 o1 => ?_⟩
    exact hs X F1 H1 d1 v1 L1 d _ s1.ok.fH (s1.ok.inH.of p1) o1 e2 fun v' L' hl o' => q v' H1 F1 L' s1 (fun p hp => p1 p (hl.mem hp)) o'
/-! ### arguments -/
theorem gxa_nil : GXA Γ [] .nil := fun X W c => PA.imp pa_nil fun σ H Q h => by
  obtain ⟨F, L, E, cur, ds, rl, e, q⟩ := h
  obtain rfl := svs_nil_inv e
  exact q [] H F [] (Step.refl rl.ok) (fun p hp => by cases hp) ⟨rfl, rfl⟩
theorem gxa_cons {e : Expr} {es : List Expr} {s : Sx} {ss : Sxs} (h : GX Γ e s) (hr : GXA Γ es ss) (ns : NS e := by intro _ _; rfl) : GXA Γ (e :: es) (.cons s ss) := fun X W c => PA.imp (pa_cons (h X W c) (hr X W c) (ns _ _)) fun σ H Q h => by
  obtain ⟨F, L, E, cur, ds, rl, e, q⟩ := h
  obtain ⟨d, es, e1, e2, rfl⟩ := svs_cons_inv e
  refine ⟨F, L, E, cur, d, rl, e1, fun v1 H1 F1 L1 s1 p1 o1 => ⟨F1, L, E, cur, es, rl.step s1, e2, fun vs H2 F2 L2 s2 p2 o2 => ?_⟩⟩
  exact q (v1 :: vs) H2 F2 (L1 ++ L2) (s1.trans s2) (fun p hp => (List.mem_append.mp hp).elim (p1 p) (p2 p)) ⟨v1, vs, L1, L2, rfl, rfl, o1.mono s2.ff, o2⟩
/-! ### truth -/
theorem gxt_val {e : Expr} {s : Sx} (h : GX Γ e s) (tv : TV e := by intro _ _; rfl) : GXT Γ e s := fun X W c => pt_val (h X W c) (tv _)
theorem gxt_w {e : Expr} {s : Sx} (h : GXW Γ e s) : GXT Γ e s := fun X W c => (h X W c).pt
theorem bl_inv {K : PySem.W.Frag} {F : Hp} {b : Bool} {v : V} {L : Fp} (h : Own K F (.bl b) v L) : v = .bl b := h.1
theorem and_inv {cur : Cur} {E : En} {a b : Sx} {d : D} (h : sv cur E (.and a b) = some d) : (sv cur E a = some (.bl true) ∧ sv cur E b = some d) ∨ (sv cur E a = some (.bl false) ∧ d = .bl false) := by
  have h : (match sv cur E a with | some (.bl true) => sv cur E b | some (.bl false) => some (.bl false) | _ => none) = some d := h
  split at h
  · rename_i e; exact .inl ⟨e, h⟩
  · rename_i e; cases h; exact .inr ⟨e, rfl⟩
  · cases h
theorem or_inv {cur : Cur} {E : En} {a b : Sx} {d : D} (h : sv cur E (.or a b) = some d) : (sv cur E a = some (.bl false) ∧ sv cur E b = some d) ∨ (sv cur E a = some (.bl true) ∧ d = .bl true) := by
  have h : (match sv cur E a with | some (.bl true) => some (.bl true) | some (.bl false) => sv cur E b | _ => none) = some d := h
  split at h
  · rename_i e; cases h; exact .inr ⟨e, rfl⟩
  · rename_i e; exact .inl ⟨e, h⟩
  · cases h
theorem not_inv {cur : Cur} {E : En} {a : Sx} {d : D} (h : sv cur E (.not a) = some d) : ∃ k, sv cur E a = some (.bl k) ∧ d = .bl (!k) := by
  have h : (match sv cur E a with | some (.bl c) => some (.bl (!c)) | _ => none) = some d := h
  split at h
  · rename_i k e; cases h; exact ⟨k, e, rfl⟩
  · cases h
theorem gxw_and1 {a : Expr} {sa : Sx} (ha : GXT Γ a sa) : GXW Γ (.BoolOp .And [a] pos) sa := fun X W c => pw_and1 (ha X W c)
theorem gxw_or1 {a : Expr} {sa : Sx} (ha : GXT Γ a sa) : GXW Γ (.BoolOp .Or [a] pos) sa := fun X W c => pw_or1 (ha X W c)
theorem gxw_and {a b : Expr} {rest : List Expr} {sa sb : Sx} (ha : GXT Γ a sa) (hb : GXW Γ (.BoolOp .And (b :: rest) pos) sb) : GXW Γ (.BoolOp .And (a :: b :: rest) pos) (.and sa sb) := fun X W c =>
  PW.imp (pw_and (ha X W c) (hb X W c)) fun σ H Q h => by
    obtain ⟨F, L, E, cur, d, rl, e, q⟩ := h
    rcases and_inv e with ⟨e1, e2⟩ | ⟨e1, rfl⟩
    · refine ⟨F, L, E, cur, _, rl, e1, fun v1 H1 F1 L1 s1 p1 o1 => ⟨true, bl_inv o1, ?_⟩⟩
      refine iteT ?_
      exact ⟨F1, L, E, cur, d, rl.step s1, e2, fun v2 H2 F2 L2 s2 p2 o2 => q v2 H2 F2 L2 (s1.trans s2) p2 o2⟩
    · refine ⟨F, L, E, cur, _, rl, e1, fun v1 H1 F1 L1 s1 p1 o1 => ⟨false, bl_inv o1, ?_⟩⟩
      refine iteF ?_
      obtain ⟨k, hk, q1⟩ := q (.bl false) H1 F1 [] s1 (fun p hp => by cases hp) ⟨rfl, rfl⟩
      cases hk
      exact q1
theorem gxw_or {a b : Expr} {rest : List Expr} {sa sb : Sx} (ha : GXT Γ a sa) (hb : GXW Γ (.BoolOp .Or (b :: rest) pos) sb) : GXW Γ (.BoolOp .Or (a :: b :: rest) pos) (.or sa sb) := fun X W c =>
  PW.imp (pw_or (ha X W c) (hb X W c)) fun σ H Q h => by
    obtain ⟨F, L, E, cur, d, rl, e, q⟩ := h
    rcases or_inv e with ⟨e1, e2⟩ | ⟨e1, rfl⟩
    · refine ⟨F, L, E, cur, _, rl, e1, fun v1 H1 F1 L1 s1 p1 o1 => ⟨false, bl_inv o1, ?_⟩⟩
      refine iteF ?_
      exact ⟨F1, L, E, cur, d, rl.step s1, e2, fun v2 H2 F2 L2 s2 p2 o2 => q v2 H2 F2 L2 (s1.trans s2) p2 o2⟩
    · refine ⟨F, L, E, cur, _, rl, e1, fun v1 H1 F1 L1 s1 p1 o1 => ⟨true, bl_inv o1, ?_⟩⟩
      refine iteT ?_
      obtain ⟨k, hk, q1⟩ := q (.bl true) H1 F1 [] s1 (fun p hp => by cases hp) ⟨rfl, rfl⟩
      cases hk
      exact q1
theorem gxt_not {a : Expr} {sa : Sx} (ha : GXT Γ a sa) : GXT Γ (.UnaryOp .Not a pos) (.not sa) := fun X W c =>
  PT.imp (pt_not (ha X W c)) fun σ H Q h => by
    obtain ⟨F, L, E, cur, d, rl, e, q⟩ := h
    obtain ⟨k, e1, rfl⟩ := not_inv e
    refine ⟨F, L, E, cur, _, rl, e1, fun v1 H1 F1 L1 s1 p1 o1 => ⟨k, bl_inv o1, ?_⟩⟩
    obtain ⟨k', hk, q1⟩ := q (.bl (!k)) H1 F1 [] s1 (fun p hp => by cases hp) ⟨rfl, rfl⟩
    cases hk
    exact q1
theorem gx_one {a : Expr} {sa : Sx} {op} (ha : GX Γ a sa) : GX Γ (.BoolOp op [a] pos) sa := fun X W c => pe_one (ha X W c)
theorem gx_and {a b : Expr} {rest : List Expr} {sa sb : Sx} (ha : GX Γ a sa) (hb : GX Γ (.BoolOp .And (b :: rest) pos) sb) : GX Γ (.BoolOp .And (a :: b :: rest) pos) (.and sa sb) := fun X W c =>
  PE.imp (pe_and (ha X W c) (hb X W c)) fun σ H Q h => by
    obtain ⟨F, L, E, cur, d, rl, e, q⟩ := h
    rcases and_inv e with ⟨e1, e2⟩ | ⟨e1, rfl⟩
    · refine ⟨F, L, E, cur, _, rl, e1, fun v1 H1 F1 L1 s1 p1 o1 => ⟨true, bl_inv o1, ?_⟩⟩
      refine iteT ?_
      exact ⟨F1, L, E, cur, d, rl.step s1, e2, fun v2 H2 F2 L2 s2 p2 o2 => q v2 H2 F2 L2 (s1.trans s2) p2 o2⟩
    · refine ⟨F, L, E, cur, _, rl, e1, fun v1 H1 F1 L1 s1 p1 o1 => ⟨false, bl_inv o1, ?_⟩⟩
      refine iteF ?_
      exact q (.bl false) H1 F1 [] s1 (fun p hp => by cases hp) ⟨rfl, rfl⟩
theorem gx_or {a b : Expr} {rest : List Expr} {sa sb : Sx} (ha : GX Γ a sa) (hb : GX Γ (.BoolOp .Or (b :: rest) pos) sb) : GX Γ (.BoolOp .Or (a :: b :: rest) pos) (.or sa sb) := fun X W c =>
  PE.imp (pe_or (ha X W c) (hb X W c)) fun σ H Q h => by
    obtain ⟨F, L, E, cur, d, rl, e, q⟩ := h
    rcases or_inv e with ⟨e1, e2⟩ | ⟨e1, rfl⟩
    · refine ⟨F, L, E, cur, _, rl, e1, fun v1 H1 F1 L1 s1 p1 o1 => ⟨false, bl_inv o1, ?_⟩⟩
      refine iteF ?_
      exact ⟨F1, L, E, cur, d, rl.step s1, e2, fun v2 H2 F2 L2 s2 p2 o2 => q v2 H2 F2 L2 (s1.trans s2) p2 o2⟩
    · refine ⟨F, L, E, cur, _, rl, e1, fun v1 H1 F1 L1 s1 p1 o1 => ⟨true, bl_inv o1, ?_⟩⟩
      refine iteT ?_
      exact q (.bl true) H1 F1 [] s1 (fun p hp => by cases hp) ⟨rfl, rfl⟩
theorem gx_not {a : Expr} {sa : Sx} (ha : GX Γ a sa) : GX Γ (.UnaryOp .Not a pos) (.not sa) := fun X W c =>
  PE.imp (pe_not (ha X W c)) fun σ H Q h => by
    obtain ⟨F, L, E, cur, d, rl, e, q⟩ := h
    obtain ⟨k, e1, rfl⟩ := not_inv e
    refine ⟨F, L, E, cur, _, rl, e1, fun v1 H1 F1 L1 s1 p1 o1 => ⟨k, bl_inv o1, ?_⟩⟩
    exact q (.bl (!k)) H1 F1 [] s1 (fun p hp => by cases hp) ⟨rfl, rfl⟩
theorem gx_ite {t a b : Expr} {st sa sb : Sx} (ht : GXT Γ t st) (ha : GX Γ a sa) (hb : GX Γ b sb) : GX Γ (.IfExp t a b pos) (.ite st sa sb) := fun X W c =>
  PE.imp (pe_ifExp (ht X W c) (ha X W c) (hb X W c)) fun σ H Q h => by
    obtain ⟨F, L, E, cur, d, rl, e, q⟩ := h
    have e : (match sv cur E st with | some (.bl true) => sv cur E sa | some (.bl false) => sv cur E sb | _ => none) = some d := e
    split at e
    · rename_i e1
      refine ⟨F, L, E, cur, _, rl, e1, fun v1 H1 F1 L1 s1 p1 o1 => ⟨true, bl_inv o1, ?_⟩⟩
      refine iteT ?_
      exact ⟨F1, L, E, cur, d, rl.step s1, e, fun v2 H2 F2 L2 s2 p2 o2 => q v2 H2 F2 L2 (s1.trans s2) p2 o2⟩
    · rename_i e1
      refine ⟨F, L, E, cur, _, rl, e1, fun v1 H1 F1 L1 s1 p1 o1 => ⟨false, bl_inv o1, ?_⟩⟩
      refine iteF ?_
      exact ⟨F1, L, E, cur, d, rl.step s1, e, fun v2 H2 F2 L2 s2 p2 o2 => q v2 H2 F2 L2 (s1.trans s2) p2 o2⟩
    · cases e
end
end VM

/-! Part E: the operations, by values. -/
namespace VM
open PySem PySem.Spec L2

section
variable {K : PySem.W.Frag} {F H : Hp} {d d1 d2 : D} {v v1 v2 : V} {L L1 L2 : Fp}
/-! ### what is read -/
/-- a sequence, as it is to be read -/
theorem items_read {xs : List D} (h : Own K F d v L) (fH : Same F H) (i : InH L H) (e : d.items = some xs) : ∃ a vs L', v = .ref a ∧ (SqL K H a vs ∨ SqT K H a vs) ∧ OwnL K F xs vs L' ∧ List.Sublist L' L := by
  cases d with
  | tup ds =>
    cases e
    obtain ⟨h1, a, vs, h2, h3, h4⟩ := h
    exact ⟨a, vs, [], h2, .inr (SqT_mono fH h3), h4, List.nil_sublist _⟩
  | scr ds =>
    cases e
    obtain ⟨h1, a, vs, h2, h3, h4⟩ := h
    exact ⟨a, vs, [], h2, .inl (fH.seq h3), h4, List.nil_sublist _⟩
  | lst o ds =>
    cases e
    cases o with
    | false =>
      obtain ⟨h1, a, vs, h2, h3, h4⟩ := h
      exact ⟨a, vs, [], h2, .inl (SqL.of (fH _ _ h3)), h4, List.nil_sublist _⟩
    | true =>
      obtain ⟨a, vs, L', h1, h2, h4⟩ := h
      subst h2
      exact ⟨a, vs, L', h1, .inl (SqL.of (i (a, .lst vs) List.mem_cons_self)), h4, List.sublist_cons_self _ _⟩
  | _ => cases e
/-- a list that is tracked -/
theorem list_read {o : Bool} {xs : List D} (h : Own K F (.lst o xs) v L) (fH : Same F H) (i : InH L H) : ∃ a vs L', v = .ref a ∧ H a = some (.lst vs) ∧ OwnL K F xs vs L' ∧ List.Sublist L' L := by
  cases o with
  | false =>
    obtain ⟨h1, a, vs, h2, h3, h4⟩ := h
    exact ⟨a, vs, [], h2, fH _ _ h3, h4, List.nil_sublist _⟩
  | true =>
    obtain ⟨a, vs, L', h1, h2, h4⟩ := h
    subst h2
    exact ⟨a, vs, L', h1, i (a, .lst vs) List.mem_cons_self, h4, List.sublist_cons_self _ _⟩
theorem own_int {i : Int} (h : Own K F (.int i) v L) : v = .int i := h.1
theorem int_own {i : Int} : Own K F (.int i) (.int i) [] := ⟨rfl, rfl⟩
theorem bl_own {i : Bool} : Own K F (.bl i) (.bl i) [] := ⟨rfl, rfl⟩
theorem str_own {i : Str} : Own K F (.str i) (.str i) [] := ⟨rfl, rfl⟩
theorem non_own : Own K F .non .non [] := ⟨rfl, rfl⟩
theorem nosub {α : Type} {l : List α} : List.Sublist [] l := List.nil_sublist _
end

/-! ### ints -/
section
variable {X : Cx}
theorem os_int2 {o : Op} {C : Int → Int → Prop} {g : Int → Int → D} {gv : Int → Int → V} (hg : ∀ K F i j, Own K F (g i j) (gv i j) [])
    (h : ∀ d1 d2 d, bop o [d1, d2] = some d → ∃ i j, d1 = .int i ∧ d2 = .int j ∧ C i j ∧ d = g i j) : OpS2 X.K (fun x y => bop o [x, y]) (rI C gv) := by
  intro F H d1 d2 v1 v2 L1 L2 d Q fH i1 i2 o1 o2 e q
  obtain ⟨i, j, rfl, rfl, hc, rfl⟩ := h _ _ _ e
  exact ⟨i, j, own_int o1, own_int o2, hc, q _ _ nosub (hg _ _ _ _)⟩
theorem os_int20 {o : Op} {g : Int → Int → D} {gv : Int → Int → V} (hg : ∀ K F i j, Own K F (g i j) (gv i j) [])
    (h : ∀ d1 d2 d, bop o [d1, d2] = some d → ∃ i j, d1 = .int i ∧ d2 = .int j ∧ d = g i j) : OpS2 X.K (fun x y => bop o [x, y]) (rI0 gv) := by
  intro F H d1 d2 v1 v2 L1 L2 d Q fH i1 i2 o1 o2 e q
  obtain ⟨i, j, rfl, rfl, rfl⟩ := h _ _ _ e
  exact ⟨i, j, own_int o1, own_int o2, q _ _ nosub (hg _ _ _ _)⟩
theorem os_sub : OpS2 X.K (fun x y => bop .sub [x, y]) (rI0 fun i j => .int (i - j)) := os_int20 (g := fun i j => .int (i - j)) (fun _ _ _ _ => int_own) fun d1 d2 d h => by
  cases d1 <;> cases d2 <;> simp only [bop] at h <;> first | (cases h; exact ⟨_, _, rfl, rfl, rfl⟩) | cases h
theorem os_mod : OpS2 X.K (fun x y => bop .mod [x, y]) (rI (fun _ j => 0 < j) fun i j => .int (i % j)) := os_int2 (g := fun i j => .int (i % j)) (fun _ _ _ _ => int_own) fun d1 d2 d h => by
  cases d1 <;> cases d2 <;> simp only [bop] at h <;> first | (split at h <;> first | (cases h; exact ⟨_, _, rfl, rfl, by assumption, rfl⟩) | cases h) | cases h
theorem os_fdiv : OpS2 X.K (fun x y => bop .fdiv [x, y]) (rI CDiv fun i j => .int (i / j)) := os_int2 (g := fun i j => .int (i / j)) (fun _ _ _ _ => int_own) fun d1 d2 d h => by
  cases d1 <;> cases d2 <;> simp only [bop] at h <;> first | (split at h <;> first | (cases h; exact ⟨_, _, rfl, rfl, by assumption, rfl⟩) | cases h) | cases h
theorem os_pow : OpS2 X.K (fun x y => bop .pow [x, y]) (rI CPow fun i j => .int (i ^ j.toNat)) := os_int2 (g := fun i j => .int (i ^ j.toNat)) (fun _ _ _ _ => int_own) fun d1 d2 d h => by
  cases d1 <;> cases d2 <;> simp only [bop] at h <;> first | (split at h <;> first | (cases h; exact ⟨_, _, rfl, rfl, by assumption, rfl⟩) | cases h) | cases h
theorem cr_lt : CmpRule .Lt .lt := fun X _ => ⟨_, op_lt, os_int20 (g := fun i j => .bl (decide (i < j))) (fun _ _ _ _ => bl_own) fun d1 d2 d h => by
  cases d1 <;> cases d2 <;> simp only [bop] at h <;> first | (cases h; exact ⟨_, _, rfl, rfl, rfl⟩) | cases h⟩
theorem cr_le : CmpRule .LtE .le := fun X _ => ⟨_, op_le, os_int20 (g := fun i j => .bl (decide (i ≤ j))) (fun _ _ _ _ => bl_own) fun d1 d2 d h => by
  cases d1 <;> cases d2 <;> simp only [bop] at h <;> first | (cases h; exact ⟨_, _, rfl, rfl, rfl⟩) | cases h⟩
theorem cr_gt : CmpRule .Gt .gt := fun X _ => ⟨_, op_gt, os_int20 (g := fun i j => .bl (decide (j < i))) (fun _ _ _ _ => bl_own) fun d1 d2 d h => by
  cases d1 <;> cases d2 <;> simp only [bop] at h <;> first | (cases h; exact ⟨_, _, rfl, rfl, rfl⟩) | cases h⟩
theorem cr_ge : CmpRule .GtE .ge := fun X _ => ⟨_, op_ge, os_int20 (g := fun i j => .bl (decide (j ≤ i))) (fun _ _ _ _ => bl_own) fun d1 d2 d h => by
  cases d1 <;> cases d2 <;> simp only [bop] at h <;> first | (cases h; exact ⟨_, _, rfl, rfl, rfl⟩) | cases h⟩
theorem os_neg : OpS1 X.K (fun x => bop .neg [x]) (rU fun i => .int (-i)) := by
  intro F H d v L d' Q fH i o e q
  cases d <;> simp only [bop] at e <;> first | (cases e; exact ⟨_, own_int o, q _ _ nosub int_own⟩) | cases e
/-! ### == and != -/
mutual
/-- a value that is read as data -/
inductive Rd (K : PySem.W.Frag) (H : Hp) : V → PyData → Prop
  | non : Rd K H .non .none
  | bl (b : Bool) : Rd K H (.bl b) (.bool b)
  | int (i : Int) : Rd K H (.int i) (.int i)
  | str (x : Str) : Rd K H (.str x) (.str x)
  | lst {a : Addr} {us : List V} {ps : List PyData} (h : SqL K H a us) (r : RdL K H us ps) : Rd K H (.ref a) (.list ps)
  | tup {a : Addr} {us : List V} {ps : List PyData} (h : SqT K H a us) (r : RdL K H us ps) : Rd K H (.ref a) (.tuple ps)
  | dct {a : Addr} (h : H a = some (.dK [])) : Rd K H (.ref a) (.dict [])
inductive RdL (K : PySem.W.Frag) (H : Hp) : List V → List PyData → Prop
  | nil : RdL K H [] []
  | cons {v : V} {us : List V} {p : PyData} {ps : List PyData} (h : Rd K H v p) (r : RdL K H us ps) : RdL K H (v :: us) (p :: ps)
end
mutual
theorem Rd.dp {K : PySem.W.Frag} {H : Hp} : ∀ (p : PyData) {v : V}, Rd K H v p → p.plain = true → Dp K H v p
  | .none, _, h, _ => by cases h; exact .non
  | .bool _, _, h, _ => by cases h; exact .bl _
  | .int _, _, h, _ => by cases h; exact .int _
  | .str _, _, h, _ => by cases h; exact .str _
  | .list ps, _, h, c => by
    cases h with
    | lst h r => exact .lst h (RdL.dp ps r (by simpa [PyData.plain] using c))
  | .tuple ps, _, h, c => by
    cases h with
    | tup h r => exact .tup h (RdL.dp ps r (by simpa [PyData.plain] using c))
  | .dict _, _, _, c => by simp [PyData.plain] at c
theorem RdL.dp {K : PySem.W.Frag} {H : Hp} : ∀ (ps : List PyData) {vs : List V}, RdL K H vs ps → PyData.plainAll ps = true → DpAll K H vs ps
  | [], _, h, _ => by cases h; exact .nil
  | p :: ps, _, h, c => by
    cases h with
    | cons h r =>
      have c' : p.plain = true ∧ PyData.plainAll ps = true := by simpa [PyData.plainAll] using c
      exact .cons (Rd.dp p h c'.1) (RdL.dp ps r c'.2)
end
section
variable {pins : List (Addr × Obj)} {σ : L2.St} {H : Hp} {s : Shared}
mutual
/-- data that are alike are told equal -/
theorem rd_eq (I : Inv X pins σ H s) : ∀ (x y : PyData) (A : Around) (v v' : V) (u u' : Value), psame x y = true → Rd X.K H v x → Rd X.K H v' y → RelV v u → RelV v' u' → A.units + x.depth < cLine → SeqAt.EqAt A s u u' true
  | .none, y, A, _, _, _, _, e, h, k, r, r', _ => by
    cases y <;> simp [psame] at e
    cases h; cases k; cases r; cases r'
    exact SeqAt.EqAt.same _
  | .bool b, y, A, _, _, _, _, e, h, k, r, r', _ => by
    cases y <;> simp [psame] at e
    subst e
    cases h; cases k; cases r; cases r'
    exact SeqAt.EqAt.same _
  | .int b, y, A, _, _, _, _, e, h, k, r, r', hu => by
    cases y <;> simp [psame] at e
    subst e
    cases h; cases k
    obtain ⟨t, rfl⟩ := r
    obtain ⟨t', rfl⟩ := r'
    have z := SeqAt.eqAt_plain (.int b) (.int b) A s _ _ _ _ (Reads.int b t) (Reads.int b t') rfl rfl (by simpa using hu)
    rw [SeqAt.eqv_refl_plain _ rfl] at z
    exact z
  | .str b, y, A, _, _, _, _, e, h, k, r, r', hu => by
    cases y <;> simp [psame] at e
    subst e
    cases h; cases k
    obtain ⟨t, rfl⟩ := r
    obtain ⟨t', rfl⟩ := r'
    have z := SeqAt.eqAt_plain (.str b) (.str b) A s _ _ _ _ (Reads.str b t) (Reads.str b t') rfl rfl (by simpa using hu)
    rw [SeqAt.eqv_refl_plain _ rfl] at z
    exact z
  | .list xs, y, A, _, _, _, _, e, h, k, r, r', hu => by
    cases y <;> simp [psame] at e
    cases h with
    | lst h1 h2 =>
      cases k with
      | lst k1 k2 =>
        rename_i a us a' us'
        cases r; cases r'
        by_cases ne : a = a'
        · subst ne
          exact SeqAt.EqAt.same _
        obtain ⟨its, q1, p1, _⟩ := I.list h1
        obtain ⟨its', q1', p1', _⟩ := I.list k1
        have hu' : A.units + (PyData.depthAll xs + 1) < cLine := by simpa only [PyData.depth] using hu
        obtain ⟨n, w⟩ := rd_eqL I xs _ A.in1 us us' its its' e h2 k2 q1 q1' (by show A.units + 1 + _ < cLine; omega)
        have z := SeqAt.RcAt.lists (A := A) (e := fun _ => true) p1.isList p1'.isList (by simpa using n) (by omega) (fun j h1 h2 => by simpa using w j (by simpa using h1) (by simpa using h2))
        rw [show ((List.range its.toArray.size).all fun _ => true) = true from List.all_eq_true.mpr fun _ _ => rfl] at z
        exact SeqAt.EqAt.of_refs ne z
  | .tuple xs, y, A, _, _, _, _, e, h, k, r, r', hu => by
    cases y <;> simp [psame] at e
    cases h with
    | tup h1 h2 =>
      cases k with
      | tup k1 k2 =>
        rename_i a us a' us'
        cases r; cases r'
        by_cases ne : a = a'
        · subst ne
          exact SeqAt.EqAt.same _
        obtain ⟨its, q1, ⟨o, ho, hc, m, hd⟩, _⟩ := I.tuple h1
        obtain ⟨its', q1', ⟨o', ho', hc', m', hd'⟩, _⟩ := I.tuple k1
        have hu' : A.units + (PyData.depthAll xs + 1) < cLine := by simpa only [PyData.depth] using hu
        obtain ⟨n, w⟩ := rd_eqL I xs _ A.in1 us us' its its' e h2 k2 q1 q1' (by show A.units + 1 + _ < cLine; omega)
        have z := SeqAt.RcAt.tuples (A := A) (e := fun _ => true) ⟨o, ho, hc, m, hd⟩ ⟨o', ho', hc', m', hd'⟩ (by omega) (fun j h1 h2 => by simpa using w j (by simpa using h1) (by simpa using h2))
        rw [show ((List.range (min its.toArray.size its'.toArray.size)).all fun _ => true) = true from List.all_eq_true.mpr fun _ _ => rfl, show (its.toArray.size == its'.toArray.size) = true by simpa using n] at z
        exact SeqAt.EqAt.of_refs ne z
  | .dict xs, y, A, _, _, _, _, e, h, k, r, r', hu => by
    cases h with
    | dct h =>
      cases y with
      | dict ys =>
        cases k with
        | dct k =>
          rename_i a a'
          cases r; cases r'
          by_cases ne : a = a'
          · subst ne
            exact SeqAt.EqAt.same _
          obtain ⟨_, ya, va, ra, oa, ea, na, a1, a2, a3, a4, a5, a6⟩ := (show ObjOk X.prog X.w H s.heap a (.dK []) from I.hok a _ h)
          obtain ⟨_, yb, vb, rb, ob, eb, nb, b1, b2, b3, b4, b5, b6⟩ := (show ObjOk X.prog X.w H s.heap a' (.dK []) from I.hok a' _ k)
          cases ra
          cases rb
          have z1 : ea.toList = [] := by
            cases q : ea.toList with
            | nil => rfl
            | cons z w => rw [q] at a5; cases a5
          have z2 : eb.toList = [] := by
            cases q : eb.toList with
            | nil => rfl
            | cons z w => rw [q] at b5; cases b5
          refine SeqAt.EqAt.of_refs ne fun prog w E Q hq => ?_
          have k1 : ∀ {es : Array DictEntry}, es.toList = [] → KeysOf (mixKind prog w) es := fun {es} q => by
            have q2 : es = #[] := by
              apply Array.ext'
              simpa using q
            subst q2
            intro e he
            simp at he
          refine PySem.W.rcP_dicts (knd := mixKind prog w) (ka := []) (kb := []) (r := true) ya yb ⟨oa, ea, na, a1, a2, a3, k1 z1, by rw [z1]; exact .nil, by simp⟩ ⟨ob, eb, nb, b1, b2, b3, k1 z2, by rw [z2]; exact .nil, by simp⟩ (by omega) (fun _ => .nil) E Q ?_
          simpa using hq
      | _ => simp [psame] at e
theorem rd_eqL (I : Inv X pins σ H s) : ∀ (xs ys : List PyData) (A : Around) (vs vs' : List V) (us us' : List Value), psameL xs ys = true → RdL X.K H vs xs → RdL X.K H vs' ys → Vals vs us → Vals vs' us' → A.units + PyData.depthAll xs < cLine →
    us.length = us'.length ∧ ∀ j (h1 : j < us.length) (h2 : j < us'.length), SeqAt.EqAt A s us[j] us'[j] true
  | [], ys, A, _, _, _, _, e, h, k, r, r', _ => by
    cases ys with
    | nil =>
      cases h; cases k; cases r; cases r'
      exact ⟨rfl, fun j h1 _ => absurd h1 (Nat.not_lt_zero _)⟩
    | cons y ys => simp [psameL] at e
  | x :: xs, ys, A, _, _, _, _, e, h, k, r, r', hu => by
    cases ys with
    | nil => simp [psameL] at e
    | cons y ys =>
      have e : (psame x y && psameL xs ys) = true := e
      obtain ⟨e1, e2⟩ := Bool.and_eq_true_iff.mp e
      cases h with
      | cons h1 h2 =>
        cases k with
        | cons k1 k2 =>
          cases r with
          | cons r1 r2 =>
            cases r' with
            | cons s1 s2 =>
              have hm : PyData.depthAll (x :: xs) = max x.depth (PyData.depthAll xs) := rfl
              rw [hm] at hu
              obtain ⟨n, w⟩ := rd_eqL I xs ys A _ _ _ _ e2 h2 k2 r2 s2 (by omega)
              refine ⟨by simpa using n, fun j j1 j2 => ?_⟩
              cases j with
              | zero => exact rd_eq I x y A _ _ _ _ e1 h1 k1 r1 s1 (by omega)
              | succ j => exact w j (Nat.lt_of_succ_lt_succ j1) (Nat.lt_of_succ_lt_succ j2)
end
/-- the first step of == and != on two lists, two tuples -/
theorem rd_top (I : Inv X pins σ H s) {x y : PyData} {A : Around} {v v' : V} {u u' : Value} (q : PyData.isSq x = true) (e : psame x y = true) (h : Rd X.K H v x) (k : Rd X.K H v' y) (r : RelV v u) (r' : RelV v' u') (hu : A.units + x.depth < cLine) : SeqAt.RcAt A s u u' true ∧ SeqAt.RcNeAt A s u u' false := by
  have al : ∀ n : Nat, ((List.range n).all fun _ => true) = true := fun n => List.all_eq_true.mpr fun _ _ => rfl
  cases x with
  | list xs =>
    cases y <;> simp [psame] at e
    cases h with
    | lst h1 h2 =>
      cases k with
      | lst k1 k2 =>
        rename_i a us a' us'
        cases r; cases r'
        obtain ⟨its, q1, p1, _⟩ := I.list h1
        obtain ⟨its', q1', p1', _⟩ := I.list k1
        have hu' : A.units + (PyData.depthAll xs + 1) < cLine := by simpa only [PyData.depth] using hu
        obtain ⟨n, w⟩ := rd_eqL I xs _ A.in1 us us' its its' e h2 k2 q1 q1' (by show A.units + 1 + _ < cLine; omega)
        have i1 : its.toArray.size = its'.toArray.size := by simpa using n
        have i2 : ∀ j (h1 : j < its.toArray.size) (h2 : j < its'.toArray.size), SeqAt.EqAt A.in1 s its.toArray[j] its'.toArray[j] true := fun j h1 h2 => by simpa using w j (by simpa using h1) (by simpa using h2)
        have z := SeqAt.RcAt.lists (A := A) (e := fun _ => true) p1.isList p1'.isList i1 (by omega) i2
        have z' := SeqAt.RcNeAt.lists (A := A) (e := fun _ => true) p1.isList p1'.isList i1 (by omega) i2
        rw [al] at z z'
        exact ⟨z, z'⟩
  | tuple xs =>
    cases y <;> simp [psame] at e
    cases h with
    | tup h1 h2 =>
      cases k with
      | tup k1 k2 =>
        rename_i a us a' us'
        cases r; cases r'
        obtain ⟨its, q1, ⟨o, ho, hc, m, hd⟩, _⟩ := I.tuple h1
        obtain ⟨its', q1', ⟨o', ho', hc', m', hd'⟩, _⟩ := I.tuple k1
        have hu' : A.units + (PyData.depthAll xs + 1) < cLine := by simpa only [PyData.depth] using hu
        obtain ⟨n, w⟩ := rd_eqL I xs _ A.in1 us us' its its' e h2 k2 q1 q1' (by show A.units + 1 + _ < cLine; omega)
        have i2 : ∀ j (h1 : j < its.toArray.size) (h2 : j < its'.toArray.size), SeqAt.EqAt A.in1 s its.toArray[j] its'.toArray[j] true := fun j h1 h2 => by simpa using w j (by simpa using h1) (by simpa using h2)
        have i3 : (its.toArray.size == its'.toArray.size) = true := by simpa using n
        have z := SeqAt.RcAt.tuples (A := A) (e := fun _ => true) ⟨o, ho, hc, m, hd⟩ ⟨o', ho', hc', m', hd'⟩ (by omega) i2
        have z' := SeqAt.RcNeAt.tuples (A := A) (e := fun _ => true) ⟨o, ho, hc, m, hd⟩ ⟨o', ho', hc', m', hd'⟩ (by omega) i2
        rw [al, i3] at z z'
        exact ⟨z, z'⟩
  | _ => simp [PyData.isSq] at q
end
/-! ### an empty dict against a text -/
namespace DS
open PySem.Calls PyProof.Rows PyProof.V PySem.W
section
variable {A : Around} {s : Shared}
theorem str_eq_declines_dict (b : Str) (u : Tok) (l : Addr) (c : Value) (es : Array DictEntry) (n : Nat) (dd : Option Addr) (sl : Array (Option Value)) :
    Meets (Builtin.«str.__eq__» ⟨[.str b u, .ref l], []⟩) (fun _ R s => s.heap.get? l = some { cls := c, dict := dd, data := .dict es n, slots := sl } ∧ R (.ok (.ret .notImplemented)) s) :=
  .of_wp fun prog w A R s h => by obtain ⟨hp, g, d, tk, os⟩ := s; obtain ⟨hl, h⟩ := h; wp_walk using wpAny_loadPart' hl, wpAny_load hl; exact ⟨_, rfl, h⟩
theorem str_ne_declines_dict (b : Str) (u : Tok) (l : Addr) (c : Value) (es : Array DictEntry) (n : Nat) (dd : Option Addr) (sl : Array (Option Value)) :
    Meets (Builtin.«str.__ne__» ⟨[.str b u, .ref l], []⟩) (fun _ R s => s.heap.get? l = some { cls := c, dict := dd, data := .dict es n, slots := sl } ∧ R (.ok (.ret .notImplemented)) s) :=
  .of_wp fun prog w A R s h => by obtain ⟨hp, g, d, tk, os⟩ := s; obtain ⟨hl, h⟩ := h; wp_walk using wpAny_loadPart' hl, wpAny_load hl; exact ⟨_, rfl, h⟩
theorem rc_dict_str {prog' : Program} {w' : World} {K : Type} [DecidableEq K] {knd : KeyKind prog' w' K} {l : Addr} {kvs : List (K × Value)} (da : s.heap.DictOf knd l kvs) (b : Str) (u : Tok) (hu : A.units < cLine) : SeqAt.RcAt A s (.ref l) (.str b u) false := fun prog w E Q h => by
  refine SeqAt.rc_eq_decline_or (k := false) da.typeIs (typeIs_str s b u) (by decide) F.sub_str_dict F.slot_dict_eq F.slot_str_eq_refl
    (fun _ hq => wpAny_call_entry F.slot_dict_eq da.typeIs F.entry_dict_eq ?_ (F.args_dict_eq_2 _ _))
    (fun _ hq => ?_)
    (fun _ hq => wpAny_of_eq (rfl : isSame (.ref l) (.str b u) = pure false) hq) (.inr hu) h
  · show wpAny _ _ (Builtin.Dict.dictSlotArgs "__eq__" ⟨[.ref l, .str b u], []⟩ >>= _) _ _ s
    refine wpAny_bind ?_
    unfold Builtin.Dict.dictSlotArgs
    refine wpAny_bind (wpAny_notOrdered_dict da.typeIs ?_)
    show wpAny _ _ (pure (Value.ref l, Value.str b u)) _ _ s
    refine wpAny_pure ?_
    refine wpAny_bind (wpAny_isInstance (T := "str") (typeIs_str s b u) PySem.F.sub_str_dict ?_)
    simp only [Bool.not_false, if_true]
    refine wpAny_bind (wpAny_rule ?_)
    exact wpAny_pure ⟨_, rfl, hq⟩
  · obtain ⟨⟨cls, dd, data, sl⟩, es, ep, ho, _, hd, _⟩ := id da
    simp only at hd
    subst hd
    exact call_meets F.slot_str_eq_refl (typeIs_str s b u) F.entry_str_eq (F.args_str_eq_2 _ _) (str_eq_declines_dict b u l cls es ep dd sl) ⟨ho, hq⟩
theorem rcNe_dict_str {prog' : Program} {w' : World} {K : Type} [DecidableEq K] {knd : KeyKind prog' w' K} {l : Addr} {kvs : List (K × Value)} (da : s.heap.DictOf knd l kvs) (b : Str) (u : Tok) (hu : A.units < cLine) : SeqAt.RcNeAt A s (.ref l) (.str b u) true := fun prog w E Q h => by
  refine SeqAt.rc_ne_decline_or (k := false) da.typeIs (typeIs_str s b u) (by decide) F.sub_str_dict F.slot_dict_ne F.slot_str_ne_refl
    (fun _ hq => wpAny_call_entry F.slot_dict_ne da.typeIs F.entry_dict_ne ?_ (F.args_dict_ne_2 _ _))
    (fun _ hq => ?_)
    (fun _ hq => wpAny_of_eq (rfl : isSame (.ref l) (.str b u) = pure false) hq) (.inr hu) h
  · show wpAny _ _ (Builtin.Dict.dictSlotArgs "__ne__" ⟨[.ref l, .str b u], []⟩ >>= _) _ _ s
    refine wpAny_bind ?_
    unfold Builtin.Dict.dictSlotArgs
    refine wpAny_bind (wpAny_notOrdered_dict da.typeIs ?_)
    show wpAny _ _ (pure (Value.ref l, Value.str b u)) _ _ s
    refine wpAny_pure ?_
    refine wpAny_bind (wpAny_isInstance (T := "str") (typeIs_str s b u) PySem.F.sub_str_dict ?_)
    simp only [Bool.not_false, if_true]
    refine wpAny_bind (wpAny_rule ?_)
    exact wpAny_pure ⟨_, rfl, hq⟩
  · obtain ⟨⟨cls, dd, data, sl⟩, es, ep, ho, _, hd, _⟩ := id da
    simp only at hd
    subst hd
    exact call_meets F.slot_str_ne_refl (typeIs_str s b u) F.entry_str_ne (F.args_str_ne_2 _ _) (str_ne_declines_dict b u l cls es ep dd sl) ⟨ho, hq⟩
end
end DS
theorem dd_of {pins : List (Addr × Obj)} {σ : L2.St} {H : Hp} {s : Shared} {a : Addr} (I : Inv X pins σ H s) (h : H a = some (.dK [])) : (a == sysModules) = false ∧ ∀ prog w, s.heap.DictOf (mixKind prog w) a ([] : List (Key × Value)) := by
  obtain ⟨_, ya, va, ra, oa, ea, na, a1, a2, a3, a4, a5, a6⟩ := (show ObjOk X.prog X.w H s.heap a (.dK []) from I.hok a _ h)
  cases ra
  have z1 : ea.toList = [] := by
    cases q : ea.toList with
    | nil => rfl
    | cons z w => rw [q] at a5; cases a5
  refine ⟨ya, fun prog w => ⟨oa, ea, na, a1, a2, a3, ?_, by rw [z1]; exact .nil, by simp⟩⟩
  have q2 : ea = #[] := by
    apply Array.ext'
    simpa using z1
  subst q2
  intro e he
  simp at he
theorem rc_dd {A : Around} {s : Shared} {a b : Addr} (ha : (a == sysModules) = false ∧ ∀ prog w, s.heap.DictOf (mixKind prog w) a ([] : List (Key × Value))) (hb : (b == sysModules) = false ∧ ∀ prog w, s.heap.DictOf (mixKind prog w) b ([] : List (Key × Value))) (hu : A.units < cLine) : SeqAt.RcAt A s (.ref a) (.ref b) true := fun prog w E Q h =>
  PySem.W.rcP_dicts (knd := mixKind prog w) (ka := []) (kb := []) (r := true) ha.1 hb.1 (ha.2 prog w) (hb.2 prog w) hu (fun _ => .nil) E Q (by simpa using h)
theorem rcNe_dd {A : Around} {s : Shared} {a b : Addr} (ha : (a == sysModules) = false ∧ ∀ prog w, s.heap.DictOf (mixKind prog w) a ([] : List (Key × Value))) (hb : (b == sysModules) = false ∧ ∀ prog w, s.heap.DictOf (mixKind prog w) b ([] : List (Key × Value))) (hu : A.units < cLine) : SeqAt.RcNeAt A s (.ref a) (.ref b) false := fun prog w E Q h => by
  have da := ha.2 prog w
  have db := hb.2 prog w
  refine wpAny_richCompare_same_room (op := .NotEq) da.typeIs db.typeIs PySem.F.slot_dict_ne (wpAny_call_entry PySem.F.slot_dict_ne da.typeIs PySem.F.entry_dict_ne ?_ (PySem.F.args_dict_ne_2 _ _)) hu
  show wpAny _ _ (Builtin.Dict.dictSlotArgs "__ne__" ⟨[.ref a, .ref b], []⟩ >>= _) _ _ s
  refine wpAny_bind ?_
  unfold Builtin.Dict.dictSlotArgs
  refine wpAny_bind (wpAny_notOrdered_dict da.typeIs ?_)
  show wpAny _ _ (pure (Value.ref a, Value.ref b)) _ _ s
  refine wpAny_pure ?_
  refine wpAny_bind (wpAny_isInstance (T := "dict") db.typeIs PySem.F.sub_dict_dict ?_)
  simp only [Bool.not_true, Bool.false_eq_true, if_false]
  refine wpAny_bind (wpAny_pure (wpAny_bind (wpAny_pure ?_)))
  refine wpAny_bind (PySem.W.samePairsP (ka := []) (kb := []) (r := true) ha.1 hb.1 da db (fun _ => .nil) ?_)
  refine wpAny_pure ⟨_, rfl, ?_, ?_⟩
  · exact fun x => nomatch x
  · simpa using h
def rPeq (K : PySem.W.Frag) (f : Bool → Bool) : R2 := fun x y H Q => ∃ d e k, Rd K H x d ∧ Rd K H y e ∧ peq d e = some k ∧ Q (.bl (f k)) H
theorem op_peq (hu : X.A.units + 66 < cLine) : OpR X (compareOp .Eq) (rPeq X.K id) := by
  intro pins s σ H x y v u Q I rx ry h
  obtain ⟨d, e, k, hd, he, hk, q⟩ := h
  unfold peq at hk
  by_cases hs : d.plain = true ∧ e.plain = true ∧ d.depth ≤ 64
  · rw [if_pos hs] at hk
    cases hk
    obtain ⟨as, r1⟩ := Dp.reads I d x v (hd.dp d hs.1) rx
    obtain ⟨bs, r2⟩ := Dp.reads I e y u (he.dp e hs.2.1) ry
    exact SeqAt.eq_plain r1 r2 hs.1 hs.2.1 (by omega) ⟨.bl _, H, I, rfl, q⟩
  · rw [if_neg hs] at hk
    split at hk
    · rename_i hz
      cases hk
      exact (rd_top I (A := X.A) hz.1 hz.2.2 hd he rx ry (by omega)).1 _ _ _ _ ⟨.bl true, H, I, rfl, q⟩
    · split at hk
      · cases hk
        cases hd with
        | dct ha =>
          cases he
          cases rx
          obtain ⟨t, rfl⟩ := ry
          obtain ⟨_, _, vs, _, dof⟩ := dk_of I.hok ha
          exact DS.rc_dict_str dof _ _ (by omega) _ _ _ _ ⟨.bl false, H, I, rfl, q⟩
      · cases hk
        cases hd with
        | dct ha =>
          cases he with
          | dct hb =>
            cases rx
            cases ry
            exact rc_dd (dd_of I ha) (dd_of I hb) (by omega) _ _ _ _ ⟨.bl true, H, I, rfl, q⟩
      · cases hk
theorem op_pne (hu : X.A.units + 66 < cLine) : OpR X (compareOp .NotEq) (rPeq X.K (!·)) := by
  intro pins s σ H x y v u Q I rx ry h
  obtain ⟨d, e, k, hd, he, hk, q⟩ := h
  unfold peq at hk
  by_cases hs : d.plain = true ∧ e.plain = true ∧ d.depth ≤ 64
  · rw [if_pos hs] at hk
    cases hk
    obtain ⟨as, r1⟩ := Dp.reads I d x v (hd.dp d hs.1) rx
    obtain ⟨bs, r2⟩ := Dp.reads I e y u (he.dp e hs.2.1) ry
    exact SeqAt.ne_plain r1 r2 hs.1 hs.2.1 (by omega) ⟨.bl _, H, I, rfl, q⟩
  · rw [if_neg hs] at hk
    split at hk
    · rename_i hz
      cases hk
      exact (rd_top I (A := X.A) hz.1 hz.2.2 hd he rx ry (by omega)).2 _ _ _ _ ⟨.bl false, H, I, rfl, q⟩
    · split at hk
      · cases hk
        cases hd with
        | dct ha =>
          cases he
          cases rx
          obtain ⟨t, rfl⟩ := ry
          obtain ⟨_, _, vs, _, dof⟩ := dk_of I.hok ha
          exact DS.rcNe_dict_str dof _ _ (by omega) _ _ _ _ ⟨.bl true, H, I, rfl, q⟩
      · cases hk
        cases hd with
        | dct ha =>
          cases he with
          | dct hb =>
            cases rx
            cases ry
            exact rcNe_dd (dd_of I ha) (dd_of I hb) (by omega) _ _ _ _ ⟨.bl false, H, I, rfl, q⟩
      · cases hk
mutual
theorem Own.rd {K : PySem.W.Frag} {F H : Hp} (fH : Same F H) : ∀ {d : D} {v : V} {L : Fp} {p : PyData}, Own K F d v L → InH L H → d.py = some p → Rd K H v p
  | .non, _, _, _, h, _, e => by cases e; rw [h.1]; exact .non
  | .bl _, _, _, _, h, _, e => by cases e; rw [h.1]; exact .bl _
  | .int _, _, _, _, h, _, e => by cases e; rw [h.1]; exact .int _
  | .str _, _, _, _, h, _, e => by cases e; rw [h.1]; exact .str _
  | .tup ds, _, _, _, h, _, e => by
    obtain ⟨q, hq, rfl⟩ := Option.map_eq_some_iff.mp (show (D.py.pyL ds).map PyData.tuple = some _ from e)
    obtain ⟨h1, a, vs, rfl, h3, h4⟩ := h
    exact .tup (SqT_mono fH h3) (OwnL.rd fH h4 (fun p hp => by cases hp) hq)
  | .scr ds, _, _, _, h, _, e => by
    obtain ⟨q, hq, rfl⟩ := Option.map_eq_some_iff.mp (show (D.py.pyL ds).map PyData.list = some _ from e)
    obtain ⟨h1, a, vs, rfl, h3, h4⟩ := h
    exact .lst (fH.seq h3) (OwnL.rd fH h4 (fun p hp => by cases hp) hq)
  | .lst false ds, _, _, _, h, _, e => by
    obtain ⟨q, hq, rfl⟩ := Option.map_eq_some_iff.mp (show (D.py.pyL ds).map PyData.list = some _ from e)
    obtain ⟨h1, a, vs, rfl, h3, h4⟩ := h
    exact .lst (SqL.of (fH _ _ h3)) (OwnL.rd fH h4 (fun p hp => by cases hp) hq)
  | .lst true ds, _, _, _, h, i, e => by
    obtain ⟨q, hq, rfl⟩ := Option.map_eq_some_iff.mp (show (D.py.pyL ds).map PyData.list = some _ from e)
    obtain ⟨a, vs, L', rfl, rfl, h4⟩ := h
    exact .lst (SqL.of (i (a, .lst vs) List.mem_cons_self)) (OwnL.rd fH h4 (fun p hp => i p (List.mem_cons_of_mem _ hp)) hq)
  | .dct o ks us, _, _, _, h, _, e => by
    obtain ⟨h1, rfl, rfl, h4, a, rfl, h6⟩ := h
    cases e
    exact .dct (fH _ _ h6)
  | .ins _ _ _ _, _, _, _, _, _, e => by cases e
  | .err _ _, _, _, _, _, _, e => by cases e
theorem OwnL.rd {K : PySem.W.Frag} {F H : Hp} (fH : Same F H) : ∀ {ds : List D} {vs : List V} {L : Fp} {ps : List PyData}, OwnL K F ds vs L → InH L H → D.py.pyL ds = some ps → RdL K H vs ps
  | [], _, _, _, h, _, e => by cases e; rw [h.1]; exact .nil
  | d :: ds, _, _, ps, h, i, e => by
    obtain ⟨v, r, L1, L2, rfl, rfl, h3, h4⟩ := h
    have e : (match d.py, D.py.pyL ds with | some a, some b => some (a :: b) | _, _ => none) = some ps := e
    split at e
    · rename_i a b e1 e2
      cases e
      exact .cons (Own.rd fH h3 (fun p hp => i p (List.mem_append_left _ hp)) e1) (OwnL.rd fH h4 (fun p hp => i p (List.mem_append_right _ hp)) e2)
    · cases e
end
theorem deq_inv {a b : D} {k : Bool} (h : deq a b = some k) : ∃ x y, a.py = some x ∧ b.py = some y ∧ peq x y = some k := by
  unfold deq at h
  split at h
  · rename_i x y h1 h2
    exact ⟨x, y, h1, h2, h⟩
  · cases h
theorem cr_eq : CmpRule .Eq .eq := fun X hu => ⟨_, op_peq hu, fun F H d1 d2 v1 v2 L1 L2 d Q fH i1 i2 o1 o2 e q => by
  obtain ⟨k, h1, rfl⟩ := Option.map_eq_some_iff.mp (show (deq d1 d2).map D.bl = some d from e)
  obtain ⟨x, y, e1, e2, e3⟩ := deq_inv h1
  exact ⟨x, y, k, o1.rd fH i1 e1, o2.rd fH i2 e2, e3, q _ _ nosub bl_own⟩⟩
theorem cr_ne : CmpRule .NotEq .ne := fun X hu => ⟨_, op_pne hu, fun F H d1 d2 v1 v2 L1 L2 d Q fH i1 i2 o1 o2 e q => by
  obtain ⟨k, h1, rfl⟩ := Option.map_eq_some_iff.mp (show (deq d1 d2).map (fun c => D.bl (!c)) = some d from e)
  obtain ⟨x, y, e1, e2, e3⟩ := deq_inv h1
  exact ⟨x, y, k, o1.rd fH i1 e1, o2.rd fH i2 e2, e3, q _ _ nosub bl_own⟩⟩
end

/-! ### is None -/
section
variable {Γ : Ctx} {pos : Pos}
theorem own_non {K : PySem.W.Frag} {F : Hp} {d : D} {v : V} {L : Fp} (h : Own K F d v L) : decide (v = .non) = d.isNon := by
  cases d with
  | non => rw [h.1] <;> rfl
  | bl b => rw [h.1] <;> rfl
  | int b => rw [h.1] <;> rfl
  | str b => rw [h.1] <;> rfl
  | tup ds => obtain ⟨_, a, vs, rfl, _⟩ := h; rfl
  | scr ds => obtain ⟨_, a, vs, rfl, _⟩ := h; rfl
  | lst o ds =>
    cases o with
    | false => obtain ⟨_, a, vs, rfl, _⟩ := h; rfl
    | true => obtain ⟨a, vs, _, rfl, _⟩ := h; rfl
  | dct _ _ _ => obtain ⟨_, _, _, _, a, rfl, _⟩ := h; rfl
  | ins o c ns ds =>
    cases o with
    | false => obtain ⟨_, _, a, dx, vs, rfl, _⟩ := h; rfl
    | true => obtain ⟨_, a, dx, vs, L', rfl, _⟩ := h; rfl
  | err _ _ => obtain ⟨_, _, a, dx, u, rfl, _⟩ := h; rfl
theorem one_of {X : Cx} {W : WX} {sa : Sx} {o : Op} {r : V → Hp → VK → Prop} (c : CtxOk Γ X W) (hs : OpS1 X.K (fun x => bop o [x]) r) : ∀ σ H Q, tS Γ X (.op o (.cons sa .nil)) σ H Q → tS Γ X sa σ H fun x H1 => r x H1 Q := fun σ H Q h => by
  obtain ⟨F, L, E, cur, d, rl, e, q⟩ := h
  have e : (svs cur E (.cons sa .nil)).bind (bop o) = some d := e
  obtain ⟨ds, e1, e2⟩ := Option.bind_eq_some_iff.mp e
  obtain ⟨d1, es, e3, e4, rfl⟩ := svs_cons_inv e1
  obtain rfl := svs_nil_inv e4
  refine ⟨F, L, E, cur, d1, rl, e3, fun v1 H1 F1 L1 s1 p1 o1 => ?_⟩
  exact hs F1 H1 d1 v1 L1 d _ s1.ok.fH (s1.ok.inH.of p1) o1 e2 fun v' L' hl o' => q v' H1 F1 L' s1 (fun p hp => p1 p (hl.mem hp)) o'
theorem os_isN {K : PySem.W.Frag} : OpS1 K (fun x => bop .isN [x]) (fun x H Q => Q (.bl (decide (x = .non))) H) := fun F H d v L d' Q fH i o e q => by
  cases e
  rw [own_non o]
  exact q _ [] nosub bl_own
theorem os_notN {K : PySem.W.Frag} : OpS1 K (fun x => bop .notN [x]) (fun x H Q => Q (.bl (!decide (x = .non))) H) := fun F H d v L d' Q fH i o e q => by
  cases e
  rw [own_non o]
  exact q _ [] nosub bl_own
theorem gx_isN {a : Expr} {sa : Sx} {j pos'} (ha : GX Γ a sa) : GX Γ (.Compare a [.Is] [.Constant .none j pos'] pos) (.op .isN (.cons sa .nil)) := fun X W c => PE.imp (pe_cmp (pc_isN (ha X W c)) rfl) (one_of c os_isN)
theorem gx_notN {a : Expr} {sa : Sx} {j pos'} (ha : GX Γ a sa) : GX Γ (.Compare a [.IsNot] [.Constant .none j pos'] pos) (.op .notN (.cons sa .nil)) := fun X W c => PE.imp (pe_cmp (pc_notN (ha X W c)) rfl) (one_of c os_notN)
theorem gxt_isN {a : Expr} {sa : Sx} {j pos'} (ha : GX Γ a sa) : GXT Γ (.Compare a [.Is] [.Constant .none j pos'] pos) (.op .isN (.cons sa .nil)) := fun X W c => PT.imp (pt_cmp (pc_isN (ha X W c)) rfl) fun σ H Q h => one_of c os_isN σ H _ h
theorem gxt_notN {a : Expr} {sa : Sx} {j pos'} (ha : GX Γ a sa) : GXT Γ (.Compare a [.IsNot] [.Constant .none j pos'] pos) (.op .notN (.cons sa .nil)) := fun X W c => PT.imp (pt_cmp (pc_notN (ha X W c)) rfl) fun σ H Q h => one_of c os_notN σ H _ h
end
end VM

/-! Part F: built-in functions, subscripts, what makes lists and tuples. -/
namespace VM
open PySem PySem.Spec L2

section
variable {Γ : Ctx} {pos p : Pos} {K : PySem.W.Frag}
theorem bltn_none {X : Cx} {W : WX} (c : CtxOk Γ X W) {x : Str} (h : Fre Γ x) : X.mg x = none := c.free x (List.contains_iff_mem.mp h)
/-- plain arguments, then a rule by values -/
theorem call_of {X : Cx} {W : WX} {ss : Sxs} {o : Op} {r : List V → Hp → VK → Prop} (c : CtxOk Γ X W) (hs : OpSL X.K (bop o) r) : ∀ σ H Q, tS Γ X (.op o ss) σ H Q → tCB r (tSs Γ X ss) σ H Q := fun σ H Q h => by
  obtain ⟨F, L, E, cur, d, rl, e, q⟩ := h
  have e : (svs cur E ss).bind (bop o) = some d := e
  obtain ⟨ds, e1, e2⟩ := Option.bind_eq_some_iff.mp e
  refine ⟨F, L, E, cur, ds, rl, e1, fun vs H1 F1 L1 s1 p1 o1 => ?_⟩
  exact hs F1 H1 ds vs L1 d _ s1.ok.fH (s1.ok.inH.of p1) o1 e2 fun v' L' hl o' => q v' H1 F1 L' s1 (fun p hp => p1 p (hl.mem hp)) o'
theorem gx_blt {x : Str} {id : String} {e : Expr} {es : List Expr} {ss : Sxs} {o : Op} {r : Cx → List V → Hp → VK → Prop} (hc : ∀ X : Cx, CallR X (.builtin id) (r X)) (hs : ∀ X : Cx, OpSL X.K (bop o) (r X)) (hv : bootBuiltins x = some (.builtin id)) (ha : GXA Γ (e :: es) ss)
    (hg : Glb Γ x := by rfl) (hm : Fre Γ x := by rfl) (ns : NS e := by intro _ _; rfl) (hpl : ∀ env : PySem.Env, (backTo pos (starEach es env)).any (·.1) = false := by intro _; rfl) (hn : x ≠ "__name__" := by decide) (hdb : (x == ("__debug__" : Str)) = false := by decide) :
    GX Γ (.Call (.Name x p) (e :: es) [] pos) (.op o ss) := fun X W c => PE.imp (pe_callB (hc X) (gl_of c hg) (bltn_none c hm) hv (ha X W c) hn hdb (ns _ _) (hpl _)) (call_of c (hs X))
theorem gx_tyc {x : Str} {T : String} {e : Expr} {es : List Expr} {ss : Sxs} {o : Op} {r : Cx → List V → Hp → VK → Prop} (hc : ∀ X : Cx, CallR X (.type T) (r X)) (hs : ∀ X : Cx, OpSL X.K (bop o) (r X)) (hv : bootBuiltins x = some (.type T)) (ha : GXA Γ (e :: es) ss)
    (hg : Glb Γ x := by rfl) (hm : Fre Γ x := by rfl) (ns : NS e := by intro _ _; rfl) (hpl : ∀ env : PySem.Env, (backTo pos (starEach es env)).any (·.1) = false := by intro _; rfl) (hn : x ≠ "__name__" := by decide) (hdb : (x == ("__debug__" : Str)) = false := by decide) :
    GX Γ (.Call (.Name x p) (e :: es) [] pos) (.op o ss) := fun X W c => PE.imp (pe_callTy (hc X) (gl_of c hg) (bltn_none c hm) hv (ha X W c) hn hdb (ns _ _) (hpl _)) (call_of c (hs X))
theorem ownL_one {F : Hp} {d : D} {vs : List V} {L : Fp} (h : OwnL K F [d] vs L) : ∃ v, vs = [v] ∧ Own K F d v L := by
  obtain ⟨v, r, L1, L2, rfl, rfl, h3, rfl, rfl⟩ := h
  exact ⟨v, rfl, by rw [List.append_nil]; exact h3⟩
theorem ownL_two {F : Hp} {d e : D} {vs : List V} {L : Fp} (h : OwnL K F [d, e] vs L) : ∃ v u L1 L2, vs = [v, u] ∧ L = L1 ++ L2 ∧ Own K F d v L1 ∧ Own K F e u L2 := by
  obtain ⟨v, r, L1, L2, rfl, rfl, h3, h4⟩ := h
  obtain ⟨u, rfl, h5⟩ := ownL_one h4
  exact ⟨v, u, L1, L2, rfl, rfl, h3, h5⟩
theorem ownL_three {F : Hp} {d e f : D} {vs : List V} {L : Fp} (h : OwnL K F [d, e, f] vs L) : ∃ v u w L1 L2 L3, vs = [v, u, w] ∧ L = L1 ++ (L2 ++ L3) ∧ Own K F d v L1 ∧ Own K F e u L2 ∧ Own K F f w L3 := by
  obtain ⟨v, r, L1, L2, rfl, rfl, h3, h4⟩ := h
  obtain ⟨u, w, M1, M2, rfl, rfl, h5, h6⟩ := ownL_two h4
  exact ⟨v, u, w, L1, M1, M2, rfl, rfl, h3, h5, h6⟩
/-! ### len, int, all -/
theorem os_len : OpSL K (bop .len) (fun xs H Q => ∃ x n, xs = [x] ∧ LenV K x H n ∧ Q (.int n) H) := fun F H ds vs L d Q fH i o e q => by
  match ds, e with
  | [.str x], e =>
    obtain ⟨v, rfl, h⟩ := ownL_one o
    simp only [bop] at e
    split at e
    · rename_i hx
      cases e
      refine ⟨v, x.length, rfl, ?_, q _ _ nosub int_own⟩
      rw [h.1]
      exact ⟨hx, rfl⟩
    · cases e
  | [.tup x], e =>
    obtain ⟨v, rfl, h⟩ := ownL_one o
    cases e
    obtain ⟨a, us, L', rfl, hr, h4, _⟩ := items_read h fH i rfl
    have := h4.length
    refine ⟨_, us.length, rfl, ?_, by rw [← this]; exact q _ _ nosub int_own⟩
    rcases hr with hr | hr
    · exact .inl ⟨us, hr, rfl⟩
    · exact .inr ⟨us, hr, rfl⟩
  | [.scr x], e =>
    obtain ⟨v, rfl, h⟩ := ownL_one o
    cases e
    obtain ⟨a, us, L', rfl, hr, h4, _⟩ := items_read h fH i rfl
    have := h4.length
    refine ⟨_, us.length, rfl, ?_, by rw [← this]; exact q _ _ nosub int_own⟩
    rcases hr with hr | hr
    · exact .inl ⟨us, hr, rfl⟩
    · exact .inr ⟨us, hr, rfl⟩
  | [.lst b x], e =>
    obtain ⟨v, rfl, h⟩ := ownL_one o
    cases e
    obtain ⟨a, us, L', rfl, hr, h4, _⟩ := items_read h fH i rfl
    have := h4.length
    refine ⟨_, us.length, rfl, ?_, by rw [← this]; exact q _ _ nosub int_own⟩
    rcases hr with hr | hr
    · exact .inl ⟨us, hr, rfl⟩
    · exact .inr ⟨us, hr, rfl⟩
  | [.non], e => cases e
  | [.bl _], e => cases e
  | [.int _], e => cases e
  | [.dct _ _ _], e => cases e
  | [.ins _ _ _ _], e => cases e
  | [.err _ _], e => cases e
  | [], e => cases e
  | a :: b :: c, e => cases a <;> cases e
theorem gx_len {e : Expr} {s : Sx} (ha : GX Γ e s) (hg : Glb Γ "len" := by rfl) (hm : Fre Γ "len" := by rfl) (ns : NS e := by intro _ _; rfl) :
    GX Γ (.Call (.Name "len" p) [e] [] pos) (.op .len (.cons s .nil)) := gx_blt (fun X => call_len) (fun X => os_len) boot_len (gxa_cons ha gxa_nil ns) hg hm ns
theorem os_toInt : OpSL K (bop .toInt) (fun xs H Q => (∃ i, xs = [.int i] ∧ Q (.int i) H) ∨ ∃ k, xs = [.bl k] ∧ Q (.int (if k then 1 else 0)) H) := fun F H ds vs L d Q fH i o e q => by
  match ds, e with
  | [.int x], e =>
    obtain ⟨v, rfl, h⟩ := ownL_one o
    cases e
    exact .inl ⟨x, by rw [h.1], q _ _ nosub int_own⟩
  | [.bl x], e =>
    obtain ⟨v, rfl, h⟩ := ownL_one o
    cases e
    exact .inr ⟨x, by rw [h.1], q _ _ nosub int_own⟩
  | [.str _], e => cases e
  | [.non], e => cases e
  | [.tup _], e => cases e
  | [.scr _], e => cases e
  | [.lst _ _], e => cases e
  | [.dct _ _ _], e => cases e
  | [.ins _ _ _ _], e => cases e
  | [.err _ _], e => cases e
  | [], e => cases e
  | a :: b :: c, e => cases a <;> cases e
theorem gx_toInt {e : Expr} {s : Sx} (ha : GX Γ e s) (hg : Glb Γ "int" := by rfl) (hm : Fre Γ "int" := by rfl) (ns : NS e := by intro _ _; rfl) :
    GX Γ (.Call (.Name "int" p) [e] [] pos) (.op .toInt (.cons s .nil)) := gx_tyc (fun X => call_int1) (fun X => os_toInt) PyProof.Rows.boot_int (gxa_cons ha gxa_nil ns) hg hm ns
theorem bools_own {F : Hp} : ∀ {ds : List D} {vs : List V} {L : Fp} {bs : List Bool}, OwnL K F ds vs L → boolsOf ds = some bs → vs = bs.map V.bl
  | [], _, _, _, h, e => by cases e; exact h.1
  | d :: ds, _, _, bs, h, e => by
    obtain ⟨v, r, L1, L2, rfl, rfl, h3, h4⟩ := h
    cases d with
    | bl b =>
      obtain ⟨cs, hc, rfl⟩ := Option.map_eq_some_iff.mp (show (boolsOf ds).map (b :: ·) = some bs from e)
      rw [h3.1, bools_own h4 hc] <;> rfl
    | _ => cases e
theorem os_allB : OpSL K (bop .allB) (rAll K) := fun F H ds vs L d Q fH i o e q => by
  match ds, e with
  | [.lst b x], e =>
    obtain ⟨v, rfl, h⟩ := ownL_one o
    obtain ⟨bs, hb, rfl⟩ := Option.map_eq_some_iff.mp (show (boolsOf x).map (fun bs => D.bl (bs.all id)) = some d from e)
    obtain ⟨a, us, L', rfl, hr, h4, _⟩ := list_read h fH i
    exact ⟨a, bs, rfl, by rw [← bools_own h4 hb]; exact SqL.of hr, q _ _ nosub bl_own⟩
  | [.str _], e => cases e
  | [.int _], e => cases e
  | [.bl _], e => cases e
  | [.non], e => cases e
  | [.tup _], e => cases e
  | [.scr _], e => cases e
  | [.dct _ _ _], e => cases e
  | [.ins _ _ _ _], e => cases e
  | [.err _ _], e => cases e
  | [], e => cases e
  | a :: b :: c, e => cases a <;> cases e
/-! ### isinstance -/
theorem kit_all (k : Kd) (t : Ty) (h : k ≠ .ins) : kitB k.nm t.nm = some (k.isTy t) := by
  cases k <;> first | exact absurd rfl h | (cases t <;> decide +kernel)
/-- a value's type: an error held as a value, too -/
inductive TyE (K : PySem.W.Frag) (H : Hp) : V → Value → Prop where
  | of {x : V} {t : Value} (h : TyX K H x t) : TyE K H x t
  | err {a dx C : Addr} {fs : List (Str × V)} (e : H a = some (exo a C (some dx))) (ed : H dx = some (exd dx fs)) (k : ErK K C) : TyE K H (.ref a) (.ref C)
/-- an error held as a value, as it lies in the heap -/
theorem err_at {X : Cx} {pins : List (Addr × Obj)} {σ : L2.St} {H : Hp} {s : Shared} {a dx C : Addr} {fs : List (Str × V)} (I : Inv X pins σ H s) (e : H a = some (exo a C (some dx))) (ed : H dx = some (exd dx fs)) :
    ∃ (ob od : Obj) (mA : Str → Option Value), PySem.W.InstAt s.heap a ob C (some od) ∧ (∀ y, PySem.W.lookIn y od = some (mA y)) ∧ ∀ f, RelO (fs.lookup f) (mA f) := by
  obtain ⟨t1, h1⟩ := exo_at I.hok e
  obtain ⟨mA, hns, rel⟩ := exd_at I.hok ed
  obtain ⟨od, ho, hl⟩ := lookIn_ns hns
  exact ⟨_, od, mA, ⟨h1, rfl, rfl, ho⟩, hl, rel⟩
theorem kit_ofE {X : Cx} {pins : List (Addr × Obj)} {σ : L2.St} {H : Hp} {s : Shared} {x : V} {u t : Value} (I : Inv X pins σ H s) (r : RelV x u) (ty : TyE X.K H x t) : ∃ Pr : Heap → Prop, PySem.W.KitX X.K u t Pr ∧ Pr s.heap ∧ u ≠ .builtin "__main__.__loader__#opaque" := by
  cases ty with
  | of h => exact kit_of I r h
  | err e ed k =>
    cases r
    obtain ⟨ob, od, mA, J, _⟩ := err_at I e ed
    exact ⟨_, PySem.W.kitx_exc k.is.cls k.xf.ga k.xf.gg k.xf.exC k.is.at_ k.is.get k.is.tak k.is.mro, J, fun z => by cases z⟩
def rIsE1 (K : PySem.W.Frag) : List V → Hp → VK → Prop := fun xs H Q => ∃ x c t u b, xs = [x, c] ∧ ClsV c u ∧ TyE K H x t ∧ PySem.W.kitOne K t u = some b ∧ Q (.bl b) H
def rIsE2 (K : PySem.W.Frag) : List V → Hp → VK → Prop := fun xs H Q => ∃ x tp cs t us b, xs = [x, .ref tp] ∧ H tp = some (.tup cs) ∧ Paired ClsV cs us ∧ TyE K H x t ∧ PySem.W.kitAny K t us = some b ∧ Q (.bl b) H
theorem call_isE1 {X : Cx} : CallR X (.builtin "isinstance") (rIsE1 X.K) := fun pins s σ H xs us Q I r h => by
  obtain ⟨x, c, t, u, b, rfl, k, ty, e, q⟩ := h
  obtain ⟨w1, w2, rfl, m1, m2⟩ := vals2 r
  rw [k.eq m2]
  obtain ⟨Pr, Z, p, nl⟩ := kit_ofE I m1 ty
  exact PySem.W.kia_one Z I.kIn p e nl fun tk => ⟨.bl b, H, I.tok tk, rfl, q⟩
theorem call_isE2 {X : Cx} : CallR X (.builtin "isinstance") (rIsE2 X.K) := fun pins s σ H xs us Q I r h => by
  obtain ⟨x, tp, cs, t, ws, b, rfl, hT, k, ty, e, q⟩ := h
  obtain ⟨w1, w2, rfl, m1, m2⟩ := vals2 r
  cases m2
  obtain ⟨Pr, Z, p, nl⟩ := kit_ofE I m1 ty
  obtain ⟨_, its, rv, ob, g1, g2, n, g3⟩ := (show ObjOk X.prog X.w H s.heap tp (.tup cs) from I.hok tp _ hT)
  rw [ClsV.all k rv] at g3
  obtain ⟨oc, od, dt, sl⟩ := ob
  dsimp only at g2 g3
  subst g2 g3
  exact PySem.W.kia_tup Z I.kIn p g1 e nl fun tk => ⟨.bl b, H, I.tok tk, rfl, q⟩
theorem own_ty {F H : Hp} {d : D} {v : V} {L : Fp} (fH : Same F H) (i : InH L H) (h : Own K F d v L) : (d.kd ≠ .ins ∧ TyX K H v (.type d.kd.nm)) ∨ (∃ o c ns ds, d = .ins o c ns ds ∧ ClsK K c ∧ TyX K H v (.ref (He.ga K c))) ∨ ∃ n e, d = .err n e ∧ ErK K (He.ga K (ern n)) ∧ TyE K H v (.ref (He.ga K (ern n))) := by
  have sq : ∀ {a : Addr} {vs : List V}, SqL K H a vs → TyX K H (.ref a) (.type "list") := fun {a vs} z => by
    rcases z with (z | ⟨o, z⟩) | z
    · exact .base (.lst z)
    · exact .base (.frz z)
    · obtain ⟨oc, its, n, e, c, _⟩ := z
      exact .kList e c
  have st : ∀ {a : Addr} {vs : List V}, SqT K H a vs → TyX K H (.ref a) (.type "tuple") := fun {a vs} z => by
    rcases z with (z | ⟨o, z⟩) | z
    · exact .base (.tup z)
    · exact .fTuple z
    · obtain ⟨oc, its, n, e, c, _⟩ := z
      exact .kTuple e c
  cases d with
  | non => rw [h.1]; exact .inl ⟨(by intro z; cases z), .base .non⟩
  | bl b => rw [h.1]; exact .inl ⟨(by intro z; cases z), .base (.bl _)⟩
  | int b => rw [h.1]; exact .inl ⟨(by intro z; cases z), .base (.int _)⟩
  | str b => rw [h.1]; exact .inl ⟨(by intro z; cases z), .base (.str _)⟩
  | tup ds => obtain ⟨_, a, vs, rfl, h3, _⟩ := h; exact .inl ⟨(by intro z; cases z), st (SqT_mono fH h3)⟩
  | scr ds => obtain ⟨_, a, vs, rfl, h3, _⟩ := h; exact .inl ⟨(by intro z; cases z), sq (fH.seq h3)⟩
  | lst o ds => obtain ⟨a, vs, L', rfl, h3, _⟩ := list_read h fH i; exact .inl ⟨(by intro z; cases z), sq (SqL.of h3)⟩
  | dct _ _ _ => obtain ⟨_, _, _, _, a, rfl, h3⟩ := h; exact .inl ⟨(by intro z; cases z), .base (.dK (fH _ _ h3))⟩
  | ins o c ns ds =>
    cases o with
    | false =>
      obtain ⟨h0, _, a, dx, vs, rfl, h3, _, _, _⟩ := h
      exact .inr (.inl ⟨false, c, ns, ds, rfl, h0, .base (.ins (fH _ _ h3) h0.cl h0.ha h0.hn h0.ht h0.hm)⟩)
    | true =>
      obtain ⟨h0, a, dx, vs, L', rfl, rfl, _, _⟩ := h
      exact .inr (.inl ⟨true, c, ns, ds, rfl, h0, .base (.ins (i (a, .ins (He.ga K c) dx (ns.zip vs)) List.mem_cons_self) h0.cl h0.ha h0.hn h0.ht h0.hm)⟩)
  | err n e =>
    obtain ⟨_, h0, a, dx, u, rfl, h3, h4, _⟩ := h
    exact .inr (.inr ⟨n, e, rfl, h0, .err (fH _ _ h3) (fH _ _ h4) h0⟩)
/-- what isinstance answers of built-in types -/
theorem own_kit {F H : Hp} {d : D} {v : V} {L : Fp} (fH : Same F H) (i : InH L H) (h : Own K F d v L) : ∃ tv, TyE K H v tv ∧ ∀ t : Ty, PySem.W.kitOne K tv (.type t.nm) = some (d.kd.isTy t) := by
  rcases own_ty fH i h with ⟨nk, ty⟩ | ⟨o, c, ns, ds, rfl, h0, ty⟩ | ⟨n, e, rfl, h0, ty⟩
  · exact ⟨_, .of ty, fun t => kit_ty (kit_all _ t nk)⟩
  · refine ⟨_, .of ty, fun t => ?_⟩
    rw [h0.ki t.nm (by cases t <;> simp [Ty.nm])]
    cases t <;> rfl
  · refine ⟨_, ty, fun t => ?_⟩
    rw [h0.is.ki t.nm (by cases t <;> simp [Ty.nm])]
    cases t <;> rfl
theorem gx_isi {e : Expr} {s : Sx} {x : Str} {p1 : Pos} {t : Ty} (ha : GX Γ e s) (hv : bootBuiltins x = some (.type t.nm)) (hg : Glb Γ "isinstance" := by rfl) (hm : Fre Γ "isinstance" := by rfl)
    (hg2 : Glb Γ x := by rfl) (hm2 : Fre Γ x := by rfl) (ns : NS e := by intro _ _; rfl) (hn : x ≠ "__name__" := by decide) (hdb : (x == ("__debug__" : Str)) = false := by decide) :
    GX Γ (.Call (.Name "isinstance" p) [e, .Name x p1] [] pos) (.op (.isi [t]) (.cons s .nil)) := fun X W c =>
  PE.imp (pe_callB call_isE1 (gl_of c hg) (bltn_none c hm) (by decide +kernel) (pa_cons (ha X W c) (pa_cons (pe_bltn (v := .ty t.nm) (gl_of c hg2) (bltn_none c hm2) hv rfl hn hdb) pa_nil) (ns _ _)) (he := ns _ _)) fun σ H Q h => by
    obtain ⟨F, L, E, cur, d, rl, e, q⟩ := h
    have e : (svs cur E (.cons s .nil)).bind (bop (.isi [t])) = some d := e
    obtain ⟨ds, e1, e2⟩ := Option.bind_eq_some_iff.mp e
    obtain ⟨d1, es, e3, e4, rfl⟩ := svs_cons_inv e1
    obtain rfl := svs_nil_inv e4
    have e2 : some (D.bl ([t].any d1.kd.isTy)) = some d := e2
    cases e2
    refine ⟨F, L, E, cur, d1, rl, e3, fun v1 H1 F1 L1 s1 p1 o1 => ?_⟩
    obtain ⟨tv, ty, nk⟩ := own_kit s1.ok.fH (s1.ok.inH.of p1) o1
    refine ⟨v1, _, _, _, _, rfl, .ty _, ty, nk t, ?_⟩
    have := q (.bl ([t].any d1.kd.isTy)) H1 F1 [] s1 (fun p hp => by cases hp) bl_own
    simpa using this
theorem gx_isi2 {e : Expr} {s : Sx} {x y : Str} {p1 p2 p3 : Pos} {z1} {t u : Ty} (ha : GX Γ e s) (hv : bootBuiltins x = some (.type t.nm)) (hw : bootBuiltins y = some (.type u.nm)) (hg : Glb Γ "isinstance" := by rfl) (hm : Fre Γ "isinstance" := by rfl)
    (hg2 : Glb Γ x := by rfl) (hm2 : Fre Γ x := by rfl) (hg3 : Glb Γ y := by rfl) (hm3 : Fre Γ y := by rfl) (ns : NS e := by intro _ _; rfl) (hn : x ≠ "__name__" := by decide) (hdb : (x == ("__debug__" : Str)) = false := by decide) (hn3 : y ≠ "__name__" := by decide) (hdb3 : (y == ("__debug__" : Str)) = false := by decide) :
    GX Γ (.Call (.Name "isinstance" p) [e, .Tuple [.Name x p1, .Name y p2] z1 p3] [] pos) (.op (.isi [t, u]) (.cons s .nil)) := fun X W c =>
  PE.imp (pe_callB call_isE2 (gl_of c hg) (bltn_none c hm) (by decide +kernel) (pa_cons (ha X W c) (pa_cons (pe_tup (pa_cons (pe_bltn (v := .ty t.nm) (gl_of c hg2) (bltn_none c hm2) hv rfl hn hdb) (pa_cons (pe_bltn (v := .ty u.nm) (gl_of c hg3) (bltn_none c hm3) hw rfl hn3 hdb3) pa_nil))) pa_nil) (ns _ _)) (he := ns _ _)) fun σ H Q h => by
    obtain ⟨F, L, E, cur, d, rl, e, q⟩ := h
    have e : (svs cur E (.cons s .nil)).bind (bop (.isi [t, u])) = some d := e
    obtain ⟨ds, e1, e2⟩ := Option.bind_eq_some_iff.mp e
    obtain ⟨d1, es, e3, e4, rfl⟩ := svs_cons_inv e1
    obtain rfl := svs_nil_inv e4
    have e2 : some (D.bl ([t, u].any d1.kd.isTy)) = some d := e2
    cases e2
    refine ⟨F, L, E, cur, d1, rl, e3, fun v1 H1 F1 L1 s1 p1 o1 => ⟨by show 2 ≤ sizeLine; decide, fun tp ht => ?_⟩⟩
    have s2 := s1.trans (Step.newFrozen s1.ok (.tup [.ty t.nm, .ty u.nm]) ht)
    obtain ⟨tv, ty, nk⟩ := own_kit s2.ok.fH (s2.ok.inH.of p1) (o1.mono (Step.newFrozen s1.ok (.tup [.ty t.nm, .ty u.nm]) ht).ff)
    refine ⟨v1, tp, _, _, _, [t, u].any d1.kd.isTy, rfl, upd_same, .cons (.ty _) (.cons (.ty _) .nil), ty, ?_, q _ _ _ [] s2 (fun p hp => by cases hp) bl_own⟩
    refine kitAny_cons (nk t) (fun hf => kitAny_cons (nk u) (fun hg => ?_) fun hg => ?_) fun hf => ?_
    · rw [kitAny_nil]
      simp [hf, hg]
    · simp [hf, hg]
    · simp [hf]
/-! ### subscripts -/
theorem atI_own {F : Hp} {ds : List D} {vs : List V} {L : Fp} {i : Int} {d : D} (h : OwnL K F ds vs L) (e : atI ds i = some d) : ∃ v L', atI vs i = some v ∧ List.Sublist L' L ∧ Own K F d v L' := by
  unfold atI at e ⊢
  rw [← h.length]
  obtain ⟨j, e1, e2⟩ := Option.bind_eq_some_iff.mp e
  obtain ⟨v, L', h1, h2, h3⟩ := h.get e2
  exact ⟨v, L', by rw [e1]; exact h1, h2, h3⟩
theorem os_idx : OpS2 K (fun x y => bop .idx [x, y]) (rIx K) := fun F H d1 d2 v1 v2 L1 L2 d Q fH i1 i2 o1 o2 e q => by
  have seq : ∀ {xs : List D} {k : Int}, d1.items = some xs → d2 = .int k → d1.items.bind (fun xs => atI xs k) = some d → rIx K v1 v2 H Q := fun {xs k} h hk hh => by
    subst hk
    rw [h] at hh
    obtain ⟨a, us, L', rfl, hr, h4, hsub⟩ := items_read o1 fH i1 h
    obtain ⟨v, M, g1, g2, g3⟩ := atI_own h4 (show atI xs k = some d from hh)
    have qq := q v M ((g2.trans hsub).trans (List.sublist_append_left _ _)) g3
    rcases hr with hr | hr
    · exact .inl ⟨a, us, k, v, rfl, own_int o2, hr, g1, qq⟩
    · exact .inr (.inl ⟨a, us, k, v, rfl, own_int o2, hr, g1, qq⟩)
  cases d2 with
  | int k =>
    cases d1 with
    | str x =>
      have e : (if x.length ≤ sizeLine then (atI x.cps.toList k).map fun c => D.str ⟨#[c]⟩ else none) = some d := e
      split at e
      · rename_i hx
        obtain ⟨ch, hc, rfl⟩ := Option.map_eq_some_iff.mp e
        exact .inr (.inr ⟨x, k, ch, o1.1, own_int o2, hx, hc, q _ _ nosub str_own⟩)
      · cases e
    | tup xs => exact seq rfl rfl e
    | scr xs => exact seq rfl rfl e
    | lst o xs => exact seq rfl rfl e
    | _ => cases e
  | _ => cases d1 <;> cases e
theorem gx_idx {a b : Expr} {sa sb : Sx} (ha : GX Γ a sa) (hb : GX Γ b sb) (hs : PlainIx b := by intro _ _; rfl) : GX Γ (.Subscript a b pos) (.op .idx (.cons sa (.cons sb .nil))) := fun X W c =>
  PE.imp (pe_ix ix_seq (ha X W c) (hb X W c) hs) (two_of (a := a) (b := b) c os_idx)
end
end VM

/-! Part G: operations that make lists and tuples; chains. -/
namespace VM
open PySem PySem.Spec L2

/-- what an operation made: nothing (data that never changes), or a new list, a new tuple -/
def Res (K : PySem.W.Frag) (F H : Hp) (d : D) (v : V) (H' : Hp) : Prop := (H' = H ∧ d.fz = true ∧ Own K F d v []) ∨
  ∃ p ws ds, H p = none ∧ v = .ref p ∧ OwnL K F ds ws [] ∧ ((H' = upd H p (.lst ws) ∧ d = .lst true ds) ∨ (H' = upd H p (.tup ws) ∧ d = .tup ds))
theorem topfz_fz : ∀ {d : D}, d.fz = true → d.topfz = d
  | .lst false _, _ => rfl
  | .lst true _, h => by cases h
  | .non, _ => rfl
  | .bl _, _ => rfl
  | .int _, _ => rfl
  | .str _, _ => rfl
  | .tup _, _ => rfl
  | .scr _, _ => rfl
  | .dct _ _ _, _ => rfl
  | .ins _ _ _ _, _ => rfl
  | .err _ _, _ => rfl
section
variable {K : PySem.W.Frag} {F H H' : Hp} {L : Fp} {d : D} {v : V}
theorem Res.frozen (ok : Ok F L H) (r : Res K F H d v H') : ∃ F', Step F L H F' L H' ∧ Own K F' d.topfz v [] := by
  rcases r with ⟨rfl, hf, o⟩ | ⟨p, ws, ds, hn, rfl, o, ⟨rfl, rfl⟩ | ⟨rfl, rfl⟩⟩
  · exact ⟨F, Step.refl ok, by rw [topfz_fz hf]; exact o⟩
  · have s := Step.newFrozen ok (.lst ws) hn
    exact ⟨_, s, rfl, p, ws, rfl, upd_same, o.mono s.ff⟩
  · have s := Step.newFrozen ok (.tup ws) hn
    exact ⟨_, s, rfl, p, ws, rfl, .inl (.inl upd_same), o.mono s.ff⟩
theorem Res.owned (ok : Ok F L H) (r : Res K F H d v H') : ∃ F' L2, Step F L H F' (L2 ++ L) H' ∧ Own K F' d v L2 := by
  rcases r with ⟨rfl, hf, o⟩ | ⟨p, ws, ds, hn, rfl, o, ⟨rfl, rfl⟩ | ⟨rfl, rfl⟩⟩
  · exact ⟨F, [], Step.refl ok, o⟩
  · have s := Step.newOwned ok (.lst ws) hn
    exact ⟨_, [(p, .lst ws)], s, p, ws, [], rfl, rfl, o.mono s.ff⟩
  · have s := Step.newFrozen ok (.tup ws) hn
    exact ⟨_, [], s, rfl, p, ws, rfl, .inl (.inl upd_same), o.mono s.ff⟩
end
def tR (Γ : Ctx) (X : Cx) (o : AOp) (as : Sxs) : TE := fun σ H Q => ∃ F L E cur ds d, Rel Γ X cur E F L σ H ∧ svs cur E as = some ds ∧ aop o ds = some d ∧ ∀ v F1 H1 H', Step F L H F1 L H1 → Res X.K F1 H1 d v H' → Q v H'
/-- e is the operation o of plain arguments -/
def AX (Γ : Ctx) (e : Expr) (o : AOp) (as : Sxs) : Prop := ∀ X W, CtxOk Γ X W → PE X e (tR Γ X o as)
section
variable {Γ : Ctx} {pos p p2 : Pos} {K : PySem.W.Frag}
theorem gx_new {e : Expr} {o : AOp} {as : Sxs} (h : AX Γ e o as) : GX Γ e (.aop o as) := fun X W c => PE.imp (h X W c) fun σ H Q z => by
  obtain ⟨F, L, E, cur, d, rl, e, q⟩ := z
  have e : ((svs cur E as).bind (aop o)).map D.topfz = some d := e
  obtain ⟨d0, e0, rfl⟩ := Option.map_eq_some_iff.mp e
  obtain ⟨ds, e1, e2⟩ := Option.bind_eq_some_iff.mp e0
  refine ⟨F, L, E, cur, ds, d0, rl, e1, e2, fun v F1 H1 H' s r => ?_⟩
  obtain ⟨F2, s2, o2⟩ := r.frozen s.ok
  exact q v H' F2 [] (s.trans s2) (fun p hp => by cases hp) o2
/-! ### by values -/
def OpA2 (K : PySem.W.Frag) (f : D → D → Option D) (r : R2) : Prop := ∀ F H d1 d2 v1 v2 L1 L2 d' Q, Same F H → InH L1 H → InH L2 H → Own K F d1 v1 L1 → Own K F d2 v2 L2 → f d1 d2 = some d' → (∀ v' H', Res K F H d' v' H' → Q v' H') → r v1 v2 H Q
def OpAL (K : PySem.W.Frag) (f : List D → Option D) (r : List V → Hp → VK → Prop) : Prop := ∀ F H ds vs L d' Q, Same F H → InH L H → OwnL K F ds vs L → f ds = some d' → (∀ v' H', Res K F H d' v' H' → Q v' H') → r vs H Q
theorem twoA {X : Cx} {W : WX} {sa sb : Sx} {o : AOp} {r : R2} (c : CtxOk Γ X W) (hs : OpA2 X.K (fun x y => aop o [x, y]) r) : ∀ σ H Q, tR Γ X o (.cons sa (.cons sb .nil)) σ H Q → tOp r (tS Γ X sa) (tS Γ X sb) σ H Q := fun σ H Q h => by
  obtain ⟨F, L, E, cur, ds, d, rl, e1, e2, q⟩ := h
  obtain ⟨d1, es, e3, e4, rfl⟩ := svs_cons_inv e1
  obtain ⟨d2, es, e5, e6, rfl⟩ := svs_cons_inv e4
  obtain rfl := svs_nil_inv e6
  refine ⟨F, L, E, cur, d1, rl, e3, fun v1 H1 F1 L1 s1 p1 o1 => ⟨F1, L, E, cur, d2, rl.step s1, e5, fun v2 H2 F2 L2 s2 p2 o2 => ?_⟩⟩
  exact hs F2 H2 d1 d2 v1 v2 L1 L2 d _ s2.ok.fH (s2.ok.inH.of p1) (s2.ok.inH.of p2) (o1.mono s2.ff) o2 e2 fun v' H' r => q v' F2 H2 H' (s1.trans s2) r
theorem ax_bin {a b : Expr} {sa sb : Sx} {op : Operator} {o : AOp} {r : Cx → R2} (ho : ∀ X, OpR X (binaryOp op) (r X)) (hs : ∀ X : Cx, OpA2 X.K (fun x y => aop o [x, y]) (r X)) (ha : GX Γ a sa) (hb : GX Γ b sb) : AX Γ (.BinOp a op b pos) o (.cons sa (.cons sb .nil)) := fun X W c =>
  PE.imp (pe_op (ho X) (ha X W c) (hb X W c)) (twoA c (hs X))
def OpM2 (K : PySem.W.Frag) (r : R2) (f : D → D → Option D) : Prop := OpA2 K f r
/-- a + b -/
def rAddAll (K : PySem.W.Frag) : R2 := fun x y H Q => ((∃ i j, x = .int i ∧ y = .int j ∧ Q (.int (i + j)) H) ∨ (∃ i j, x = .str i ∧ y = .str j ∧ i.length + j.length ≤ sizeLine ∧ Q (.str (i ++ j)) H)) ∨ (rCat x y H Q ∨ rCatA K x y H Q)
theorem op_addAll {X : Cx} : OpR X (binaryOp .Add) (rAddAll X.K) := OpR.or (OpR.or op_add op_add_str) (OpR.or op_cat op_catA)
theorem res_int {F H : Hp} {i : Int} : Res K F H (.int i) (.int i) H := .inl ⟨rfl, rfl, int_own⟩
theorem oa_add : OpA2 K (fun x y => aop .add [x, y]) (rAddAll K) := fun F H d1 d2 v1 v2 L1 L2 d Q fH i1 i2 o1 o2 e q => by
  cases d1 with
  | int i =>
    cases d2 with
    | int j => cases e; exact .inl (.inl ⟨i, j, own_int o1, own_int o2, q _ _ res_int⟩)
    | _ => cases e
  | str i =>
    cases d2 with
    | str j =>
      have e : (if i.length + j.length ≤ sizeLine then some (D.str (i ++ j)) else none) = some d := e
      split at e
      · rename_i hl
        cases e
        exact .inl (.inr ⟨i, j, o1.1, o2.1, hl, q _ _ (.inl ⟨rfl, rfl, str_own⟩)⟩)
      · cases e
    | _ => cases e
  | tup xs =>
    cases d2 with
    | tup ys =>
      have e : (if xs.length + ys.length ≤ sizeLine then some (D.tup (xs ++ ys)) else none) = some d := e
      split at e
      · rename_i hl
        cases e
        obtain ⟨_, a, vs, rfl, h3, h4⟩ := o1
        obtain ⟨_, b, us, rfl, h5, h6⟩ := o2
        have l1 := h4.length
        have l2 := h6.length
        refine .inr (.inr ⟨a, b, vs, us, rfl, rfl, SqT_mono fH h3, SqT_mono fH h5, by omega, fun z => ?_, fun z z2 => ?_, fun z z2 p hp => ?_⟩)
        · subst z
          obtain rfl := List.eq_nil_of_length_eq_zero (l1.trans rfl)
          exact q _ _ (.inl ⟨rfl, rfl, rfl, b, us, rfl, h5, h6⟩)
        · subst z2
          obtain rfl := List.eq_nil_of_length_eq_zero (l2.trans rfl)
          refine q _ _ (.inl ⟨rfl, rfl, rfl, a, vs, rfl, h3, ?_⟩)
          rw [List.append_nil]
          exact h4
        · exact q _ _ (.inr ⟨p, vs ++ us, xs ++ ys, hp, rfl, by simpa using h4.append h6, .inr ⟨rfl, rfl⟩⟩)
      · cases e
    | _ => cases e
  | lst o xs =>
    cases d2 with
    | lst o' ys =>
      have e : (if fzL xs = true ∧ fzL ys = true ∧ xs.length + ys.length ≤ sizeLine then some (D.lst true (xs ++ ys)) else none) = some d := e
      split at e
      · rename_i hl
        cases e
        obtain ⟨a, vs, M1, rfl, h3, h4, _⟩ := list_read o1 fH i1
        obtain ⟨b, us, M2, rfl, h5, h6, _⟩ := list_read o2 fH i2
        have l1 := h4.length
        have l2 := h6.length
        have n1 := OwnL.fz_nil hl.1 h4
        have n2 := OwnL.fz_nil hl.2.1 h6
        subst n1 n2
        exact .inr (.inl ⟨a, b, vs, us, rfl, rfl, h3, h5, by omega, fun p hp => q _ _ (.inr ⟨p, vs ++ us, xs ++ ys, hp, rfl, by simpa using h4.append h6, .inl ⟨rfl, rfl⟩⟩)⟩)
      · cases e
    | _ => cases e
  | _ => cases d2 <;> cases e
/-- a * b -/
def rMulAll : R2 := fun x y H Q => (∃ i j, x = .int i ∧ y = .int j ∧ CMul i j ∧ Q (.int (i * j)) H) ∨ rRep x y H Q
theorem op_mulAll {X : Cx} : OpR X (binaryOp .Mult) rMulAll := OpR.or op_mul op_rep
theorem cmul_of {i j : Int} (h : CMulB i j = true) : CMul i j := by
  unfold CMulB at h
  rcases Bool.or_eq_true_iff.mp h with h | h
  · exact .inl (of_decide_eq_true h)
  · exact .inr (of_decide_eq_true h)
theorem OwnL.rep {F : Hp} {xs : List D} {vs : List V} (h : OwnL K F xs vs []) : ∀ n : Nat, OwnL K F (List.replicate n xs).flatten (List.replicate n vs).flatten []
  | 0 => ⟨rfl, rfl⟩
  | n + 1 => by
    rw [List.replicate_succ, List.replicate_succ, List.flatten_cons, List.flatten_cons]
    simpa using h.append (OwnL.rep h n)
theorem oa_mul : OpA2 K (fun x y => aop .mul [x, y]) rMulAll := fun F H d1 d2 v1 v2 L1 L2 d Q fH i1 i2 o1 o2 e q => by
  cases d1 with
  | int i =>
    cases d2 with
    | int j =>
      have e : (if CMulB i j = true then some (D.int (i * j)) else none) = some d := e
      split at e
      · rename_i hl
        cases e
        exact .inl ⟨i, j, own_int o1, own_int o2, cmul_of hl, q _ _ res_int⟩
      · cases e
    | _ => cases e
  | lst o xs =>
    cases d2 with
    | int k =>
      have e : (if fzL xs = true ∧ -(2 ^ 63) ≤ k ∧ k < 2 ^ 63 ∧ xs.length * k.toNat ≤ sizeLine then some (D.lst true (List.replicate k.toNat xs).flatten) else none) = some d := e
      split at e
      · rename_i hl
        cases e
        obtain ⟨a, vs, M1, rfl, h3, h4, _⟩ := list_read o1 fH i1
        have n1 := OwnL.fz_nil hl.1 h4
        subst n1
        exact .inr ⟨a, k, vs, rfl, own_int o2, h3, hl.2.1, hl.2.2.1, by rw [← h4.length]; exact hl.2.2.2, fun p hp => q _ _ (.inr ⟨p, _, _, hp, rfl, h4.rep k.toNat, .inl ⟨rfl, rfl⟩⟩)⟩
      · cases e
    | _ => cases e
  | _ => cases d2 <;> cases e
theorem ax_add {a b : Expr} {sa sb : Sx} (ha : GX Γ a sa) (hb : GX Γ b sb) : AX Γ (.BinOp a .Add b pos) .add (.cons sa (.cons sb .nil)) := ax_bin (fun X => op_addAll) (fun X => oa_add) ha hb
theorem ax_mul {a b : Expr} {sa sb : Sx} (ha : GX Γ a sa) (hb : GX Γ b sb) : AX Γ (.BinOp a .Mult b pos) .mul (.cons sa (.cons sb .nil)) := ax_bin (r := fun _ => rMulAll) (fun X => op_mulAll) (fun X => oa_mul) ha hb
/-! ### tuple(x), list(x) -/
theorem callA {X : Cx} {W : WX} {ss : Sxs} {o : AOp} {r : List V → Hp → VK → Prop} (c : CtxOk Γ X W) (hs : OpAL X.K (aop o) r) : ∀ σ H Q, tR Γ X o ss σ H Q → tCB r (tSs Γ X ss) σ H Q := fun σ H Q h => by
  obtain ⟨F, L, E, cur, ds, d, rl, e1, e2, q⟩ := h
  refine ⟨F, L, E, cur, ds, rl, e1, fun vs H1 F1 L1 s1 p1 o1 => ?_⟩
  exact hs F1 H1 ds vs L1 d _ s1.ok.fH (s1.ok.inH.of p1) o1 e2 fun v' H' r => q v' F1 H1 H' s1 r
theorem oa_tupOf : OpAL K (aop .tupOf) (fun xs H Q => ∃ p ys, xs = [.ref p] ∧ ((SqL K H p ys ∧ ∀ l, H l = none → Q (.ref l) (upd H l (.tup ys))) ∨ (SqT K H p ys ∧ Q (.ref p) H))) := fun F H ds vs L d Q fH i o e q => by
  match ds, e with
  | [.tup x], e =>
    cases e
    obtain ⟨v, rfl, _, a, us, rfl, h3, h4⟩ := ownL_one o
    exact ⟨a, us, rfl, .inr ⟨SqT_mono fH h3, q _ _ (.inl ⟨rfl, rfl, rfl, a, us, rfl, h3, h4⟩)⟩⟩
  | [.scr x], e =>
    cases e
    obtain ⟨v, rfl, _, a, us, rfl, h3, h4⟩ := ownL_one o
    exact ⟨a, us, rfl, .inl ⟨fH.seq h3, fun l hl => q _ _ (.inr ⟨l, us, x, hl, rfl, h4, .inr ⟨rfl, rfl⟩⟩)⟩⟩
  | [.lst b x], e =>
    have e : (if fzL x = true then some (D.tup x) else none) = some d := e
    split at e
    · rename_i hf
      cases e
      obtain ⟨v, rfl, h⟩ := ownL_one o
      obtain ⟨a, us, M, rfl, h3, h4, _⟩ := list_read h fH i
      have n1 := OwnL.fz_nil hf h4
      subst n1
      exact ⟨a, us, rfl, .inl ⟨SqL.of h3, fun l hl => q _ _ (.inr ⟨l, us, x, hl, rfl, h4, .inr ⟨rfl, rfl⟩⟩)⟩⟩
    · cases e
  | [.non], e => cases e
  | [.bl _], e => cases e
  | [.int _], e => cases e
  | [.str _], e => cases e
  | [.dct _ _ _], e => cases e
  | [.ins _ _ _ _], e => cases e
  | [.err _ _], e => cases e
  | [], e => cases e
  | a :: b :: c, e => cases a <;> cases e
theorem oa_lstOf : OpAL K (aop .lstOf) (fun xs H Q => ∃ p ys, xs = [.ref p] ∧ (SqL K H p ys ∨ SqT K H p ys) ∧ ∀ l, H l = none → Q (.ref l) (upd H l (.lst ys))) := fun F H ds vs L d Q fH i o e q => by
  match ds, e with
  | [.tup x], e =>
    cases e
    obtain ⟨v, rfl, _, a, us, rfl, h3, h4⟩ := ownL_one o
    exact ⟨a, us, rfl, .inr (SqT_mono fH h3), fun l hl => q _ _ (.inr ⟨l, us, x, hl, rfl, h4, .inl ⟨rfl, rfl⟩⟩)⟩
  | [.scr x], e =>
    cases e
    obtain ⟨v, rfl, _, a, us, rfl, h3, h4⟩ := ownL_one o
    exact ⟨a, us, rfl, .inl (fH.seq h3), fun l hl => q _ _ (.inr ⟨l, us, x, hl, rfl, h4, .inl ⟨rfl, rfl⟩⟩)⟩
  | [.lst b x], e =>
    have e : (if fzL x = true then some (D.lst true x) else none) = some d := e
    split at e
    · rename_i hf
      cases e
      obtain ⟨v, rfl, h⟩ := ownL_one o
      obtain ⟨a, us, M, rfl, h3, h4, _⟩ := list_read h fH i
      have n1 := OwnL.fz_nil hf h4
      subst n1
      exact ⟨a, us, rfl, .inl (SqL.of h3), fun l hl => q _ _ (.inr ⟨l, us, x, hl, rfl, h4, .inl ⟨rfl, rfl⟩⟩)⟩
    · cases e
  | [.non], e => cases e
  | [.bl _], e => cases e
  | [.int _], e => cases e
  | [.str _], e => cases e
  | [.dct _ _ _], e => cases e
  | [.ins _ _ _ _], e => cases e
  | [.err _ _], e => cases e
  | [], e => cases e
  | a :: b :: c, e => cases a <;> cases e
theorem boot_tuple : bootBuiltins "tuple" = some (.type "tuple") := by decide +kernel
theorem boot_list : bootBuiltins "list" = some (.type "list") := by decide +kernel
theorem ax_tupOf {e : Expr} {s : Sx} (ha : GX Γ e s) (hg : Glb Γ "tuple" := by rfl) (hm : Fre Γ "tuple" := by rfl) (ns : NS e := by intro _ _; rfl) :
    AX Γ (.Call (.Name "tuple" p) [e] [] pos) .tupOf (.cons s .nil) := fun X W c => PE.imp (pe_callTy call_tuple_of (gl_of c hg) (bltn_none c hm) boot_tuple (gxa_cons ha gxa_nil ns X W c) (he := ns _ _)) (callA c oa_tupOf)
theorem ax_lstOf {e : Expr} {s : Sx} (ha : GX Γ e s) (hg : Glb Γ "list" := by rfl) (hm : Fre Γ "list" := by rfl) (ns : NS e := by intro _ _; rfl) :
    AX Γ (.Call (.Name "list" p) [e] [] pos) .lstOf (.cons s .nil) := fun X W c => PE.imp (pe_callTy call_list_of (gl_of c hg) (bltn_none c hm) boot_list (gxa_cons ha gxa_nil ns X W c) (he := ns _ _)) (callA c oa_lstOf)
/-! ### slices -/
def OpASl (K : PySem.W.Frag) (r : V → Option Int → Option Int → Hp → VK → Prop) : Prop := ∀ F H d v L lo hi d' Q, Same F H → InH L H → Own K F d v L → cutBy d lo hi = some d' → (∀ v' H', Res K F H d' v' H' → Q v' H') → r v lo hi H Q
theorem OwnL.cut {F : Hp} {xs : List D} {vs : List V} (h : OwnL K F xs vs []) (lo hi : Option Int) : OwnL K F (cutD xs lo hi) (cutV vs lo hi) [] := by
  unfold cutD cutV
  rw [h.length]
  exact (h.drop _).take _
theorem cut_full {xs : List D} {lo hi : Option Int} (h : HT.sIx xs.length 0 lo = 0 ∧ HT.sIx xs.length xs.length hi = xs.length) : cutD xs lo hi = xs := by
  unfold cutD
  rw [h.1, h.2]
  simp
def rSlAll (K : PySem.W.Frag) : V → Option Int → Option Int → Hp → VK → Prop := fun x lo hi H Q => rSlL K x lo hi H Q ∨ rSlA K x lo hi H Q
theorem sl_all {X : Cx} : SlR X (rSlAll X.K) := SlR.or sl_list sl_tupA
theorem oa_cut : OpASl K (rSlAll K) := fun F H d v L lo hi d' Q fH i o e q => by
  cases d with
  | tup xs =>
    cases e
    obtain ⟨_, a, us, rfl, h3, h4⟩ := o
    have hl := h4.length
    refine .inr ⟨a, us, rfl, SqT_mono fH h3, fun z => ?_, fun z p hp => q _ _ (.inr ⟨p, _, _, hp, rfl, h4.cut lo hi, .inr ⟨rfl, rfl⟩⟩)⟩
    rw [← hl] at z
    have := q (.ref a) H (.inl ⟨rfl, rfl, rfl, a, us, rfl, h3, by rw [cut_full z]; exact h4⟩)
    exact this
  | scr xs =>
    cases e
    obtain ⟨_, a, us, rfl, h3, h4⟩ := o
    exact .inl ⟨a, us, rfl, fH.seq h3, fun p hp => q _ _ (.inr ⟨p, _, _, hp, rfl, h4.cut lo hi, .inl ⟨rfl, rfl⟩⟩)⟩
  | lst b xs =>
    have e : (if fzL xs = true then some (D.lst true (cutD xs lo hi)) else none) = some d' := e
    split at e
    · rename_i hf
      cases e
      obtain ⟨a, us, M, rfl, h3, h4, _⟩ := list_read o fH i
      have n1 := OwnL.fz_nil hf h4
      subst n1
      exact .inl ⟨a, us, rfl, SqL.of h3, fun p hp => q _ _ (.inr ⟨p, _, _, hp, rfl, h4.cut lo hi, .inl ⟨rfl, rfl⟩⟩)⟩
    · cases e
  | _ => cases e
theorem ax_cut00 {a : Expr} {sa : Sx} (ha : GX Γ a sa) : AX Γ (.Subscript a (.Slice none none none p2) pos) (.cut false false) (.cons sa .nil) := fun X W c =>
  PE.imp (pe_slice sl_all (ha X W c) po_none po_none) fun σ H Q h => by
    obtain ⟨F, L, E, cur, ds, d, rl, e1, e2, q⟩ := h
    obtain ⟨d1, es, e3, e4, rfl⟩ := svs_cons_inv e1
    obtain rfl := svs_nil_inv e4
    refine ⟨F, L, E, cur, d1, rl, e3, fun v1 H1 F1 L1 s1 p1 o1 => ?_⟩
    exact oa_cut F1 H1 d1 v1 L1 none none d _ s1.ok.fH (s1.ok.inH.of p1) o1 e2 fun v' H' r => q v' F1 H1 H' s1 r
theorem ax_cut10 {a l : Expr} {sa sl : Sx} (ha : GX Γ a sa) (hl : GX Γ l sl) : AX Γ (.Subscript a (.Slice (some l) none none p2) pos) (.cut true false) (.cons sa (.cons sl .nil)) := fun X W c =>
  PE.imp (pe_slice sl_all (ha X W c) (po_some (hl X W c)) po_none) fun σ H Q h => by
    obtain ⟨F, L, E, cur, ds, d, rl, e1, e2, q⟩ := h
    obtain ⟨d1, es, e3, e4, rfl⟩ := svs_cons_inv e1
    obtain ⟨d2, es, e5, e6, rfl⟩ := svs_cons_inv e4
    obtain rfl := svs_nil_inv e6
    cases d2 with
    | int lo =>
      refine ⟨F, L, E, cur, d1, rl, e3, fun v1 H1 F1 L1 s1 p1 o1 => ⟨F1, L, E, cur, _, rl.step s1, e5, fun v2 H2 F2 L2 s2 p2 o2 => ⟨lo, own_int o2, ?_⟩⟩⟩
      exact oa_cut F2 H2 d1 v1 L1 (some lo) none d _ s2.ok.fH (s2.ok.inH.of p1) (o1.mono s2.ff) e2 fun v' H' r => q v' F2 H2 H' (s1.trans s2) r
    | _ => cases e2
theorem ax_cut01 {a l : Expr} {sa sl : Sx} (ha : GX Γ a sa) (hl : GX Γ l sl) : AX Γ (.Subscript a (.Slice none (some l) none p2) pos) (.cut false true) (.cons sa (.cons sl .nil)) := fun X W c =>
  PE.imp (pe_slice sl_all (ha X W c) po_none (po_some (hl X W c))) fun σ H Q h => by
    obtain ⟨F, L, E, cur, ds, d, rl, e1, e2, q⟩ := h
    obtain ⟨d1, es, e3, e4, rfl⟩ := svs_cons_inv e1
    obtain ⟨d2, es, e5, e6, rfl⟩ := svs_cons_inv e4
    obtain rfl := svs_nil_inv e6
    cases d2 with
    | int lo =>
      refine ⟨F, L, E, cur, d1, rl, e3, fun v1 H1 F1 L1 s1 p1 o1 => ⟨F1, L, E, cur, _, rl.step s1, e5, fun v2 H2 F2 L2 s2 p2 o2 => ⟨lo, own_int o2, ?_⟩⟩⟩
      exact oa_cut F2 H2 d1 v1 L1 none (some lo) d _ s2.ok.fH (s2.ok.inH.of p1) (o1.mono s2.ff) e2 fun v' H' r => q v' F2 H2 H' (s1.trans s2) r
    | _ => cases e2
theorem ax_cut11 {a l h : Expr} {sa sl sh : Sx} (ha : GX Γ a sa) (hl : GX Γ l sl) (hh : GX Γ h sh) : AX Γ (.Subscript a (.Slice (some l) (some h) none p2) pos) (.cut true true) (.cons sa (.cons sl (.cons sh .nil))) := fun X W c =>
  PE.imp (pe_slice sl_all (ha X W c) (po_some (hl X W c)) (po_some (hh X W c))) fun σ H Q h => by
    obtain ⟨F, L, E, cur, ds, d, rl, e1, e2, q⟩ := h
    obtain ⟨d1, es, e3, e4, rfl⟩ := svs_cons_inv e1
    obtain ⟨d2, es, e5, e6, rfl⟩ := svs_cons_inv e4
    obtain ⟨d3, es, e7, e8, rfl⟩ := svs_cons_inv e6
    obtain rfl := svs_nil_inv e8
    cases d2 with
    | int lo =>
      cases d3 with
      | int hi =>
        refine ⟨F, L, E, cur, d1, rl, e3, fun v1 H1 F1 L1 s1 p1 o1 => ⟨F1, L, E, cur, _, rl.step s1, e5, fun v2 H2 F2 L2 s2 p2 o2 => ⟨lo, own_int o2, ?_⟩⟩⟩
        refine ⟨F2, L, E, cur, _, (rl.step s1).step s2, e7, fun v3 H3 F3 L3 s3 p3 o3 => ⟨hi, own_int o3, ?_⟩⟩
        exact oa_cut F3 H3 d1 v1 L1 (some lo) (some hi) d _ s3.ok.fH (s3.ok.inH.of p1) ((o1.mono s2.ff).mono s3.ff) e2 fun v' H' r => q v' F3 H3 H' ((s1.trans s2).trans s3) r
      | _ => cases e2
    | _ => cases e2
/-! ### a tuple as it is written -/
theorem gx_tup {es : List Expr} {ss : Sxs} {x1} (h : GXA Γ es ss) : GX Γ (.Tuple es x1 pos) (.tup ss) := fun X W c => PE.imp (pe_tup (h X W c)) fun σ H Q z => by
  obtain ⟨F, L, E, cur, d, rl, e, q⟩ := z
  have e : ((svs cur E ss).bind fun ds => if fzL ds = true ∧ ds.length ≤ sizeLine then some (D.tup ds) else none) = some d := e
  obtain ⟨ds, e1, e2⟩ := Option.bind_eq_some_iff.mp e
  split at e2
  · rename_i hf
    cases e2
    refine ⟨F, L, E, cur, ds, rl, e1, fun vs H1 F1 L1 s1 p1 o1 => ⟨by rw [← o1.length]; exact hf.2, fun t ht => ?_⟩⟩
    have n1 := OwnL.fz_nil hf.1 o1
    subst n1
    have s2 := Step.newFrozen s1.ok (.tup vs) ht
    exact q (.ref t) _ _ [] (s1.trans s2) (fun p hp => by cases hp) ⟨rfl, t, vs, rfl, .inl (.inl upd_same), o1.mono s2.ff⟩
  · cases e2
/-! ### chains -/
theorem chain_of {X : Cx} {W : WX} {a b d : Expr} {sa sb sc : Sx} {o1 o2 : Op} {r1 r2 : R2} (c : CtxOk Γ X W) (h1 : OpS2 X.K (fun x y => bop o1 [x, y]) r1) (h2 : OpS2 X.K (fun x y => bop o2 [x, y]) r2) : ∀ σ H Q, tS Γ X (.chain o1 o2 sa sb sc) σ H Q → tChain r1 r2 (tS Γ X sa) (tS Γ X sb) (tS Γ X sc) σ H Q := fun σ H Q h => by
  obtain ⟨F, L, E, cur, d, rl, e, q⟩ := h
  have e : (match sv cur E sa, sv cur E sb with
    | some x, some y => (match bop o1 [x, y] with
      | some (.bl true) => (sv cur E sc).bind fun z => bop o2 [y, z]
      | some (.bl false) => some (.bl false)
      | _ => none)
    | _, _ => none) = some d := e
  split at e
  · rename_i x y ea eb
    refine ⟨F, L, E, cur, x, rl, ea, fun v1 H1 F1 L1 s1 p1 q1 => ⟨F1, L, E, cur, y, rl.step s1, eb, fun v2 H2 F2 L2 s2 p2 q2 => ?_⟩⟩
    split at e
    · rename_i e1
      refine h1 F2 H2 x y v1 v2 L1 L2 _ _ s2.ok.fH (s2.ok.inH.of p1) (s2.ok.inH.of p2) (q1.mono s2.ff) q2 e1 fun v' L' hl o' => ⟨true, bl_inv o', ?_⟩
      refine iteT ?_
      obtain ⟨z, ez, e2⟩ := Option.bind_eq_some_iff.mp e
      refine ⟨F2, L, E, cur, z, (rl.step s1).step s2, ez, fun v3 H3 F3 L3 s3 p3 q3 => ?_⟩
      exact h2 F3 H3 y z v2 v3 L2 L3 _ _ s3.ok.fH (s3.ok.inH.of p2) (s3.ok.inH.of p3) (q2.mono s3.ff) q3 e2 fun v' L' hl o' => q v' H3 F3 L' ((s1.trans s2).trans s3) (fun p hp => by
        rcases List.mem_append.mp (hl.mem hp) with z | z
        · exact p2 p z
        · exact p3 p z) o'
    · rename_i e1
      cases e
      refine h1 F2 H2 x y v1 v2 L1 L2 _ _ s2.ok.fH (s2.ok.inH.of p1) (s2.ok.inH.of p2) (q1.mono s2.ff) q2 e1 fun v' L' hl o' => ⟨false, bl_inv o', ?_⟩
      refine iteF ?_
      exact q (.bl false) H2 F2 [] (s1.trans s2) (fun p hp => by cases hp) bl_own
    · cases e
  · cases e
theorem gx_chain {a b d : Expr} {sa sb sd : Sx} {op1 op2 : CmpOp} {o1 o2 : Op} (h1 : CmpRule op1 o1) (h2 : CmpRule op2 o2) (ha : GX Γ a sa) (hb : GX Γ b sb) (hd : GX Γ d sd) (hm : lastMarks [op1, op2] [b, d] = false := by with_unfolding_all rfl) : GX Γ (.Compare a [op1, op2] [b, d] pos) (.chain o1 o2 sa sb sd) := fun X W c => by
  obtain ⟨r1, a1, b1⟩ := h1 X c.un
  obtain ⟨r2, a2, b2⟩ := h2 X c.un
  exact PE.imp (pe_chain a1 a2 (ha X W c) (hb X W c) (hd X W c) hm) (chain_of (a := a) (b := b) (d := d) c b1 b2)
theorem gxt_chain {a b d : Expr} {sa sb sd : Sx} {op1 op2 : CmpOp} {o1 o2 : Op} (h1 : CmpRule op1 o1) (h2 : CmpRule op2 o2) (ha : GX Γ a sa) (hb : GX Γ b sb) (hd : GX Γ d sd) (hm : lastMarks [op1, op2] [b, d] = false := by with_unfolding_all rfl) : GXT Γ (.Compare a [op1, op2] [b, d] pos) (.chain o1 o2 sa sb sd) := fun X W c => by
  obtain ⟨r1, a1, b1⟩ := h1 X c.un
  obtain ⟨r2, a2, b2⟩ := h2 X c.un
  exact PT.imp (pt_chain a1 a2 (ha X W c) (hb X W c) (hd X W c) hm) fun σ H Q h => chain_of (a := a) (b := b) (d := d) c b1 b2 σ H _ h
end
end VM

/-! Part H: expressions that call, that move, that make. -/
namespace VM
open PySem PySem.Spec L2

def R.bind {α β : Type} (r : R α) (f : α → En → R β) : R β := match r with
  | .ok a E => f a E
  | .exc c d E => .exc c d E
  | .bad => .bad
/-- what is wanted of an outcome r, begun at F, L, H -/
def Bs (Γ : Ctx) (X : Cx) (W : WX) (σ : L2.St) {α β : Type} (F : Hp) (L : Fp) (H : Hp) (rep : Hp → α → β → Fp → Prop) (r : R α) (Q : β → Hp → Prop) : Prop := match r with
  | .ok a E' => ∀ b H' F' L1 L2, Step F L H F' (L2 ++ L1) H' → OwnE X.K F' E' σ L1 → rep F' a b L2 → Q b H'
  | .exc c d E' => ∀ cls dd H' F' L1, Step F L H F' L1 H' → OwnE X.K F' E' σ L1 → ExcIs X.K X.mg Γ.enm F' c d cls dd → W cls dd σ H'
  | .bad => False
section
variable {Γ : Ctx} {X : Cx} {W : WX} {σ : L2.St} {α β γ δ : Type} {F F1 : Hp} {L L1 B : Fp} {H H1 : Hp} {rep1 : Hp → α → β → Fp → Prop} {rep2 : Hp → γ → δ → Fp → Prop}
theorem Bs.bindS {r : R α} {f : α → En → R γ} {Q : δ → Hp → Prop} {Q1 : β → Hp → Prop} (s : Step F L H F1 (B ++ L1) H1) (h : Bs Γ X W σ F L H rep2 (r.bind f) Q)
    (k : ∀ a E2, Bs Γ X W σ F L H rep2 (f a E2) Q → ∀ b H2 F2 L1' L2', Step F1 L1 H1 F2 (L2' ++ L1') H2 → Step F L H F2 (B ++ (L2' ++ L1')) H2 → OwnE X.K F2 E2 σ L1' → rep1 F2 a b L2' → Q1 b H2) : Bs Γ X W σ F1 L1 H1 rep1 r Q1 := by
  have s' : Step F L H F1 (L1 ++ B) H1 := s.perm List.perm_append_comm
  cases r with
  | ok a E2 => exact fun b H2 F2 L1' L2' t o q => k a E2 h b H2 F2 L1' L2' t ((s'.frame t).perm List.perm_append_comm) o q
  | exc c d E2 => exact fun cls dd H2 F2 L1' t o q => h cls dd H2 F2 L1' ((s'.frame t).sub (List.sublist_append_left _ _)) o q
  | bad => exact h
theorem Bs.bind0 {r : R α} {f : α → En → R γ} {Q : δ → Hp → Prop} {Q1 : β → Hp → Prop} (ok : Ok F L H) (h : Bs Γ X W σ F L H rep2 (r.bind f) Q)
    (k : ∀ a E2, Bs Γ X W σ F L H rep2 (f a E2) Q → ∀ b H2 F2 L1' L2', Step F L H F2 (L2' ++ L1') H2 → OwnE X.K F2 E2 σ L1' → rep1 F2 a b L2' → Q1 b H2) : Bs Γ X W σ F L H rep1 r Q1 :=
  Bs.bindS (B := []) (Step.refl ok) h fun a E2 h b H2 F2 L1' L2' t _ o q => k a E2 h b H2 F2 L1' L2' t o q
end
abbrev ro (X : Cx) : Hp → D → V → Fp → Prop := fun F d v L => Own X.K F d v L
abbrev roL (X : Cx) : Hp → List D → List V → Fp → Prop := fun F d v L => OwnL X.K F d v L
def tE (Γ : Ctx) (X : Cx) (W : WX) (m : M) : TE := fun σ H Q => ∃ F L E cur, Rel Γ X cur E F L σ H ∧ Bs Γ X W σ F L H (ro X) (ev Γ.call cur m E) Q
def tEs (Γ : Ctx) (X : Cx) (W : WX) (m : Ms) : TA := fun σ H Q => ∃ F L E cur, Rel Γ X cur E F L σ H ∧ Bs Γ X W σ F L H (roL X) (evs Γ.call cur m E) Q
def tEA (Γ : Ctx) (X : Cx) (W : WX) (m : As) : TA := fun σ H Q => ∃ F L E cur, Rel Γ X cur E F L σ H ∧ Bs Γ X W σ F L H (roL X) (evA Γ.call cur m E) Q
def GE (Γ : Ctx) (e : Expr) (m : M) : Prop := ∀ X W, CtxOk Γ X W → PE X e (tE Γ X W m)
def GT (Γ : Ctx) (e : Expr) (m : M) : Prop := ∀ X W, CtxOk Γ X W → PT X e (tB (tE Γ X W m))
def GW (Γ : Ctx) (e : Expr) (m : M) : Prop := ∀ X W, CtxOk Γ X W → PW X e (tB (tE Γ X W m))
def GEs (Γ : Ctx) (es : List Expr) (m : Ms) : Prop := ∀ X W, CtxOk Γ X W → PA X es (tEs Γ X W m)
def GEA (Γ : Ctx) (es : List Expr) (m : As) : Prop := ∀ X W, CtxOk Γ X W → PA X es (tEA Γ X W m)
section
variable {Γ : Ctx} {pos p p2 : Pos}
theorem Rel.on {X : Cx} {cur : Cur} {E E' : En} {F F' : Hp} {L L' M : Fp} {σ : L2.St} {H H' : Hp} (r : Rel Γ X cur E F L σ H) (s : Step F L H F' M H') (hs : List.Sublist L' M) (o : OwnE X.K F' E' σ L') : Rel Γ X cur E' F' L' σ H' := ⟨s.ok.sub hs, o, r.cur.mono s.ff, fun P h => s.tab P (r.tab P h), r.hv⟩
theorem sub_r {A B : Fp} : List.Sublist B (A ++ B) := List.sublist_append_right _ _
theorem sub_l {A B : Fp} : List.Sublist A (A ++ B) := List.sublist_append_left _ _
/-! ### plain ones -/
theorem sx_rule {X : Cx} {W : WX} {s : Sx} (σ : L2.St) (H : Hp) (Q : VK) (h : tE Γ X W (.sx s) σ H Q) : tS Γ X s σ H Q := by
  obtain ⟨F, L, E, cur, rl, q⟩ := h
  have q : Bs Γ X W σ F L H (ro X) (match sv cur E s with
    | some d => if d.fz = true then .ok d E else .bad
    | none => .bad) Q := q
  split at q
  · rename_i d e
    split at q
    · rename_i hf
      refine ⟨F, L, E, cur, d, rl, e, fun v H' F' L' st hl o => ?_⟩
      have n := Own.fz_nil hf o
      subst n
      exact q v H' F' L [] st (rl.own.mono st.ff) o
    · exact q.elim
  · exact q.elim
theorem ge_sx {e : Expr} {s : Sx} (h : GX Γ e s) : GE Γ e (.sx s) := fun X W c => PE.imp (h X W c) sx_rule
theorem gt_sx {e : Expr} {s : Sx} (h : GXT Γ e s) : GT Γ e (.sx s) := fun X W c => PT.imp (h X W c) fun σ H Q z => sx_rule σ H _ z
theorem gw_sx {e : Expr} {s : Sx} (h : GXW Γ e s) : GW Γ e (.sx s) := fun X W c => PW.imp (h X W c) fun σ H Q z => sx_rule σ H _ z
theorem gt_val {e : Expr} {m : M} (h : GE Γ e m) (tv : TV e := by intro _ _; rfl) : GT Γ e m := fun X W c => pt_val (h X W c) (tv _)
theorem gt_w {e : Expr} {m : M} (h : GW Γ e m) : GT Γ e m := fun X W c => (h X W c).pt
theorem ge_new {e : Expr} {o : AOp} {as : Sxs} (h : AX Γ e o as) : GE Γ e (.new o as) := fun X W c => PE.imp (h X W c) fun σ H Q z => by
  obtain ⟨F, L, E, cur, rl, q⟩ := z
  have q : Bs Γ X W σ F L H (ro X) (match (svs cur E as).bind (aop o) with
    | some d => .ok d E
    | none => .bad) Q := q
  split at q
  · rename_i d e
    obtain ⟨ds, e1, e2⟩ := Option.bind_eq_some_iff.mp e
    refine ⟨F, L, E, cur, ds, d, rl, e1, e2, fun v F1 H1 H' s r => ?_⟩
    obtain ⟨F2, L2, s2, o2⟩ := r.owned s.ok
    exact q v H' F2 L L2 (s.trans s2) (rl.own.mono (s.ff.trans s2.ff)) o2
  · exact q.elim
/-- a name that moves on: it never changes again -/
theorem ge_tk {i : Nat} {x : Str} (hN : Γ.N[i]? = some x := by rfl) (hv : Vis Γ.sc x := by first | exact Or.inl rfl | exact Or.inr (Or.inl rfl) | exact Or.inr (Or.inr rfl)) (hd : (x == ("__debug__" : Str)) = false := by decide) (hcd : (x == ("__classdict__" : Str)) = false := by decide) :
    GE Γ (.Name x pos) (.tk i) := fun X W c => PE.imp (pe_var (by rw [c.n]; exact hN) (by rw [c.sc]; exact hv) hd hcd) fun σ H Q h => by
  obtain ⟨F, L, E, cur, rl, q⟩ := h
  have q : Bs Γ X W σ F L H (ro X) (match E[i]? with
    | some (some d) => .ok d (E.set i none)
    | _ => .bad) Q := q
  split at q
  · rename_i d e
    obtain ⟨v, L1, L2, h1, h2, h3, h4⟩ := rl.own.take e
    exact ⟨v, h1, q v H F L2 L1 ((Step.refl rl.ok).perm h4) h3 h2⟩
  · exact q.elim
theorem ge_mv {i : Nat} {x : Str} (hN : Γ.N[i]? = some x := by rfl) (hv : Vis Γ.sc x := by first | exact Or.inl rfl | exact Or.inr (Or.inl rfl) | exact Or.inr (Or.inr rfl)) (hd : (x == ("__debug__" : Str)) = false := by decide) (hcd : (x == ("__classdict__" : Str)) = false := by decide) :
    GE Γ (.Name x pos) (.mv i) := fun X W c => PE.imp (pe_var (by rw [c.n]; exact hN) (by rw [c.sc]; exact hv) hd hcd) fun σ H Q h => by
  obtain ⟨F, L, E, cur, rl, q⟩ := h
  have q : Bs Γ X W σ F L H (ro X) (match E[i]? with
    | some (some d) => .ok d.frz (E.set i (some d.frz))
    | _ => .bad) Q := q
  split at q
  · rename_i d e
    obtain ⟨v, L1, L2, h1, h2, h3, h4⟩ := rl.own.take e
    have ok2 := rl.ok.perm h4
    have s := Step.freeze ok2
    have s' : Step F L H (addF F L1) L2 H := s.from fun p hp => h4.mem_iff.mp hp
    have o1 : Own X.K (addF F L1) d.frz v [] := Own.frz s.ff d v L1 (addF_in (ND.append.mp ok2.nd).1) h2
    obtain ⟨L', h5, h6⟩ := (h3.mono s.ff).fill (i := i) (d := d.frz) (v := v) (by rw [get_set (by
      have := (List.getElem?_eq_some_iff.mp e).1
      exact this)]) h1 o1
    rw [set_set] at h5
    refine ⟨v, h1, q v H (addF F L1) L' [] ?_ h5 o1⟩
    rw [List.nil_append]
    exact s'.perm (by simpa using h6)
  · exact q.elim
/-- what is made never changes again -/
theorem ev_fz {call : Nat → List D → Rr} {cur : Cur} {m : M} {E : En} : ev call cur (.fz m) E = (ev call cur m E).bind fun d E1 => .ok d.frz E1 := by
  unfold R.bind
  rw [ev]
  cases ev call cur m E <;> rfl
theorem ge_fz {e : Expr} {m : M} (h : GE Γ e m) : GE Γ e (.fz m) := fun X W c => PE.imp (h X W c) fun σ H Q z => by
  obtain ⟨F, L, E, cur, rl, q⟩ := z
  rw [ev_fz] at q
  refine ⟨F, L, E, cur, rl, Bs.bind0 rl.ok q fun d E1 q1 v H1 F1 L1 L2 s1 o1 o2 => ?_⟩
  have s2 := Step.freeze s1.ok
  exact q1 v H1 _ L1 [] (s1.trans s2) (o1.mono s2.ff) (Own.frz s2.ff d v L2 (addF_in (ND.append.mp s1.ok.nd).1) o2)
/-! ### argument lists -/
theorem evs_cons {call : Nat → List D → Rr} {cur : Cur} {a : M} {r : Ms} {E : En} : evs call cur (.cons a r) E = (ev call cur a E).bind fun d E1 => (evs call cur r E1).bind fun ds E2 => .ok (d :: ds) E2 := by
  show (match ev call cur a E with
    | R.ok d E1 => (match evs call cur r E1 with
      | R.ok ds E2 => R.ok (d :: ds) E2
      | R.exc c d E2 => R.exc c d E2
      | R.bad => R.bad)
    | R.exc c d E1 => R.exc c d E1
    | R.bad => R.bad) = _
  cases ev call cur a E with
  | ok d E1 =>
    show (match evs call cur r E1 with
      | R.ok ds E2 => R.ok (d :: ds) E2
      | R.exc c d E2 => R.exc c d E2
      | R.bad => R.bad) = (evs call cur r E1).bind fun ds E2 => .ok (d :: ds) E2
    cases evs call cur r E1 <;> rfl
  | exc c d E1 => rfl
  | bad => rfl
theorem ges_nil : GEs Γ [] .nil := fun X W c => PA.imp pa_nil fun σ H Q h => by
  obtain ⟨F, L, E, cur, rl, q⟩ := h
  exact q [] H F L [] (Step.refl rl.ok) rl.own ⟨rfl, rfl⟩
theorem ges_cons {e : Expr} {es : List Expr} {m : M} {ms : Ms} (h : GE Γ e m) (hr : GEs Γ es ms) (ns : NS e := by intro _ _; rfl) : GEs Γ (e :: es) (.cons m ms) := fun X W c => PA.imp (pa_cons (h X W c) (hr X W c) (ns _ _)) fun σ H Q h => by
  obtain ⟨F, L, E, cur, rl, q⟩ := h
  rw [evs_cons] at q
  refine ⟨F, L, E, cur, rl, Bs.bind0 rl.ok q fun d E1 q1 v H1 F1 L1 L2 s1 o1 o2 => ?_⟩
  refine ⟨F1, L1, E1, cur, rl.on s1 sub_r o1, Bs.bindS s1 q1 fun ds E2 q2 vs H2 F2 L1' L2' s2 s3 o3 o4 => ?_⟩
  refine q2 (v :: vs) H2 F2 L1' (L2 ++ L2') ?_ o3 ⟨v, vs, L2, L2', rfl, rfl, o2.mono s2.ff, o4⟩
  rw [List.append_assoc]
  exact s3
/-! ### displays -/
theorem ev_lst {call : Nat → List D → Rr} {cur : Cur} {as : Ms} {E : En} : ev call cur (.lst as) E = (evs call cur as E).bind fun ds E1 => if ds.length ≤ sizeLine then .ok (.lst true ds) E1 else .bad := by
  unfold ev R.bind
  cases evs call cur as E <;> rfl
theorem ev_tup {call : Nat → List D → Rr} {cur : Cur} {as : Ms} {E : En} : ev call cur (.tup as) E = (evs call cur as E).bind fun ds E1 => if ds.length ≤ sizeLine then .ok (.tup (frzL ds)) E1 else .bad := by
  unfold ev R.bind
  cases evs call cur as E <;> rfl
theorem ge_lst {es : List Expr} {ms : Ms} (h : GEs Γ es ms) : GE Γ (.List es pos) (.lst ms) := fun X W c => PE.imp (pe_lst (h X W c)) fun σ H Q h => by
  obtain ⟨F, L, E, cur, rl, q⟩ := h
  rw [ev_lst] at q
  refine ⟨F, L, E, cur, rl, Bs.bind0 rl.ok q fun ds E1 q1 vs H1 F1 L1 L2 s1 o1 o2 => ?_⟩
  split at q1
  · rename_i hl
    refine ⟨by rw [← o2.length]; exact hl, fun t ht => ?_⟩
    have s2 := Step.newOwned s1.ok (.lst vs) ht
    exact q1 (.ref t) _ F1 L1 ((t, .lst vs) :: L2) (s1.trans s2) o1 ⟨t, vs, L2, rfl, rfl, o2⟩
  · exact q1.elim
theorem ge_tup {es : List Expr} {ms : Ms} {x1} (h : GEs Γ es ms) : GE Γ (.Tuple es x1 pos) (.tup ms) := fun X W c => PE.imp (pe_tup (h X W c)) fun σ H Q h => by
  obtain ⟨F, L, E, cur, rl, q⟩ := h
  rw [ev_tup] at q
  refine ⟨F, L, E, cur, rl, Bs.bind0 rl.ok q fun ds E1 q1 vs H1 F1 L1 L2 s1 o1 o2 => ?_⟩
  split at q1
  · rename_i hl
    refine ⟨by rw [← o2.length]; exact hl, fun t ht => ?_⟩
    have s2 := Step.freeze s1.ok
    have o3 := OwnL.frz s2.ff ds vs L2 (addF_in (ND.append.mp s1.ok.nd).1) o2
    have s3 := Step.newFrozen s2.ok (.tup vs) ht
    exact q1 (.ref t) _ _ L1 [] ((s1.trans s2).trans s3) ((o1.mono s2.ff).mono s3.ff) ⟨rfl, t, vs, rfl, .inl (.inl upd_same), o3.mono s3.ff⟩
  · exact q1.elim
/-! ### operations on what was made -/
theorem ev_op {call : Nat → List D → Rr} {cur : Cur} {o : Op} {as : Ms} {E : En} : ev call cur (.op o as) E = (evs call cur as E).bind fun ds E1 => match bop o ds with
    | some d => .ok d E1
    | none => .bad := by
  unfold ev R.bind
  cases evs call cur as E <;> rfl
theorem ev_aop {call : Nat → List D → Rr} {cur : Cur} {o : AOp} {as : Ms} {E : En} : ev call cur (.aop o as) E = (evs call cur as E).bind fun ds E1 => match aop o ds with
    | some d => .ok d E1
    | none => .bad := by
  unfold ev R.bind
  cases evs call cur as E <;> rfl
theorem R.bind_assoc {α β γ : Type} (r : R α) (f : α → En → R β) (g : β → En → R γ) : (r.bind f).bind g = r.bind fun a E => (f a E).bind g := by cases r <;> rfl
theorem evs_one {call : Nat → List D → Rr} {cur : Cur} {a : M} {E : En} {β : Type} (f : List D → En → R β) : (evs call cur (.cons a .nil) E).bind f = (ev call cur a E).bind fun d E1 => f [d] E1 := by
  rw [evs_cons, R.bind_assoc] <;> rfl
theorem evs_two {call : Nat → List D → Rr} {cur : Cur} {a b : M} {E : En} {β : Type} (f : List D → En → R β) : (evs call cur (.cons a (.cons b .nil)) E).bind f = (ev call cur a E).bind fun d E1 => (ev call cur b E1).bind fun d' E2 => f [d, d'] E2 := by
  rw [evs_cons, R.bind_assoc]
  congr 1
  funext d E1
  rw [R.bind_assoc, evs_cons, R.bind_assoc] <;> rfl
/-- two, then a rule by values -/
theorem twoM {X : Cx} {W : WX} {ma mb : M} {o : Op} {r : R2} (hs : OpS2 X.K (fun x y => bop o [x, y]) r) : ∀ σ H Q, tE Γ X W (.op o (.cons ma (.cons mb .nil))) σ H Q → tOp r (tE Γ X W ma) (tE Γ X W mb) σ H Q := fun σ H Q h => by
  obtain ⟨F, L, E, cur, rl, q⟩ := h
  rw [ev_op, evs_two] at q
  refine ⟨F, L, E, cur, rl, Bs.bind0 rl.ok q fun d E1 q1 v H1 F1 L1 L2 s1 o1 o2 => ?_⟩
  refine ⟨F1, L1, E1, cur, rl.on s1 sub_r o1, Bs.bindS s1 q1 fun d' E2 q2 u H2 F2 L1' L2' s2 s3 o3 o4 => ?_⟩
  split at q2
  · rename_i dd e
    have i3 := s3.ok.inH
    refine hs F2 H2 d d' v u L2 L2' dd _ s3.ok.fH (fun p hp => i3 p (List.mem_append_left _ hp)) (fun p hp => i3 p (List.mem_append_right _ (List.mem_append_left _ hp))) (o2.mono s2.ff) o4 e fun v' L' hl o' => ?_
    refine q2 v' H2 F2 L1' L' (s3.sub ?_) o3 o'
    rw [← List.append_assoc]
    exact List.Sublist.append hl (List.Sublist.refl _)
  · exact q2.elim
theorem ge_bin {a b : Expr} {ma mb : M} {op : Operator} {o : Op} {r : Cx → R2} (ho : ∀ X, OpR X (binaryOp op) (r X)) (hs : ∀ X : Cx, OpS2 X.K (fun x y => bop o [x, y]) (r X)) (ha : GE Γ a ma) (hb : GE Γ b mb) : GE Γ (.BinOp a op b pos) (.op o (.cons ma (.cons mb .nil))) := fun X W c =>
  PE.imp (pe_op (ho X) (ha X W c) (hb X W c)) (twoM (hs X))
theorem ge_cmp {a b : Expr} {ma mb : M} {op : CmpOp} {o : Op} (ho : CmpRule op o) (ha : GE Γ a ma) (hb : GE Γ b mb) (hm : behindInMarks op b = false := by rfl) : GE Γ (.Compare a [op] [b] pos) (.op o (.cons ma (.cons mb .nil))) := fun X W c => by
  obtain ⟨r, h1, h2⟩ := ho X c.un
  exact PE.imp (pe_cmpR h1 (ha X W c) (hb X W c) hm) (twoM h2)
theorem gt_cmp {a b : Expr} {ma mb : M} {op : CmpOp} {o : Op} (ho : CmpRule op o) (ha : GE Γ a ma) (hb : GE Γ b mb) (hm : behindInMarks op b = false := by rfl) : GT Γ (.Compare a [op] [b] pos) (.op o (.cons ma (.cons mb .nil))) := fun X W c => by
  obtain ⟨r, h1, h2⟩ := ho X c.un
  exact PT.imp (pt_cmpR h1 (ha X W c) (hb X W c) hm) fun σ H Q h => twoM h2 σ H _ h
theorem ge_idx {a b : Expr} {ma mb : M} (ha : GE Γ a ma) (hb : GE Γ b mb) (hs : PlainIx b := by intro _ _; rfl) : GE Γ (.Subscript a b pos) (.op .idx (.cons ma (.cons mb .nil))) := fun X W c =>
  PE.imp (pe_ix ix_seq (ha X W c) (hb X W c) hs) (twoM os_idx)
theorem twoAM {X : Cx} {W : WX} {ma mb : M} {o : AOp} {r : R2} (hs : OpA2 X.K (fun x y => aop o [x, y]) r) : ∀ σ H Q, tE Γ X W (.aop o (.cons ma (.cons mb .nil))) σ H Q → tOp r (tE Γ X W ma) (tE Γ X W mb) σ H Q := fun σ H Q h => by
  obtain ⟨F, L, E, cur, rl, q⟩ := h
  rw [ev_aop, evs_two] at q
  refine ⟨F, L, E, cur, rl, Bs.bind0 rl.ok q fun d E1 q1 v H1 F1 L1 L2 s1 o1 o2 => ?_⟩
  refine ⟨F1, L1, E1, cur, rl.on s1 sub_r o1, Bs.bindS s1 q1 fun d' E2 q2 u H2 F2 L1' L2' s2 s3 o3 o4 => ?_⟩
  split at q2
  · rename_i dd e
    have i3 := s3.ok.inH
    refine hs F2 H2 d d' v u L2 L2' dd _ s3.ok.fH (fun p hp => i3 p (List.mem_append_left _ hp)) (fun p hp => i3 p (List.mem_append_right _ (List.mem_append_left _ hp))) (o2.mono s2.ff) o4 e fun v' H' rs => ?_
    have s4 := s3.sub (L'' := L1') (sub_r.trans sub_r)
    obtain ⟨F3, L3, s5, o5⟩ := rs.owned s4.ok
    exact q2 v' H' F3 L1' L3 (s4.trans s5) (o3.mono s5.ff) o5
  · exact q2.elim
theorem ge_add {a b : Expr} {ma mb : M} (ha : GE Γ a ma) (hb : GE Γ b mb) : GE Γ (.BinOp a .Add b pos) (.aop .add (.cons ma (.cons mb .nil))) := fun X W c => PE.imp (pe_op op_addAll (ha X W c) (hb X W c)) (twoAM oa_add)
theorem ge_mul {a b : Expr} {ma mb : M} (ha : GE Γ a ma) (hb : GE Γ b mb) : GE Γ (.BinOp a .Mult b pos) (.aop .mul (.cons ma (.cons mb .nil))) := fun X W c => PE.imp (pe_op op_mulAll (ha X W c) (hb X W c)) (twoAM oa_mul)
/-- a call of a built-in -/
theorem callM {X : Cx} {W : WX} {ms : Ms} {o : Op} {r : List V → Hp → VK → Prop} (hs : OpSL X.K (bop o) r) : ∀ σ H Q, tE Γ X W (.op o ms) σ H Q → tCB r (tEs Γ X W ms) σ H Q := fun σ H Q h => by
  obtain ⟨F, L, E, cur, rl, q⟩ := h
  rw [ev_op] at q
  refine ⟨F, L, E, cur, rl, Bs.bind0 rl.ok q fun ds E1 q1 vs H1 F1 L1 L2 s1 o1 o2 => ?_⟩
  split at q1
  · rename_i d e
    have i1 := s1.ok.inH
    exact hs F1 H1 ds vs L2 d _ s1.ok.fH (fun p hp => i1 p (List.mem_append_left _ hp)) o2 e fun v' L' hl o' => q1 v' H1 F1 L1 L' (s1.sub (List.Sublist.append hl (List.Sublist.refl _))) o1 o'
  · exact q1.elim
theorem callAM {X : Cx} {W : WX} {ms : Ms} {o : AOp} {r : List V → Hp → VK → Prop} (hs : OpAL X.K (aop o) r) : ∀ σ H Q, tE Γ X W (.aop o ms) σ H Q → tCB r (tEs Γ X W ms) σ H Q := fun σ H Q h => by
  obtain ⟨F, L, E, cur, rl, q⟩ := h
  rw [ev_aop] at q
  refine ⟨F, L, E, cur, rl, Bs.bind0 rl.ok q fun ds E1 q1 vs H1 F1 L1 L2 s1 o1 o2 => ?_⟩
  split at q1
  · rename_i d e
    have i1 := s1.ok.inH
    refine hs F1 H1 ds vs L2 d _ s1.ok.fH (fun p hp => i1 p (List.mem_append_left _ hp)) o2 e fun v' H' rs => ?_
    have s4 := s1.sub (L'' := L1) sub_r
    obtain ⟨F3, L3, s5, o5⟩ := rs.owned s4.ok
    exact q1 v' H' F3 L1 L3 (s4.trans s5) (o1.mono s5.ff) o5
  · exact q1.elim
theorem ge_len {e : Expr} {m : M} (ha : GE Γ e m) (hg : Glb Γ "len" := by rfl) (hm : Fre Γ "len" := by rfl) (ns : NS e := by intro _ _; rfl) :
    GE Γ (.Call (.Name "len" p) [e] [] pos) (.op .len (.cons m .nil)) := fun X W c => PE.imp (pe_callB call_len (gl_of c hg) (bltn_none c hm) boot_len (ges_cons ha ges_nil ns X W c) (he := ns _ _)) (callM os_len)
theorem ge_toInt {e : Expr} {m : M} (ha : GE Γ e m) (hg : Glb Γ "int" := by rfl) (hm : Fre Γ "int" := by rfl) (ns : NS e := by intro _ _; rfl) :
    GE Γ (.Call (.Name "int" p) [e] [] pos) (.op .toInt (.cons m .nil)) := fun X W c => PE.imp (pe_callTy call_int1 (gl_of c hg) (bltn_none c hm) PyProof.Rows.boot_int (ges_cons ha ges_nil ns X W c) (he := ns _ _)) (callM os_toInt)
theorem ge_all {e : Expr} {m : M} (hc : Γ.calm = true) (ha : GE Γ e m) (hg : Glb Γ "all" := by rfl) (hm : Fre Γ "all" := by rfl) (ns : NS e := by intro _ _; rfl) :
    GE Γ (.Call (.Name "all" p) [e] [] pos) (.op .allB (.cons m .nil)) := fun X W c => PE.imp (pe_callB (cr_all (c.calm hc)) (gl_of c hg) (bltn_none c hm) (by decide +kernel) (ges_cons ha ges_nil ns X W c) (he := ns _ _)) (callM os_allB)
theorem ge_tupOf {e : Expr} {m : M} (ha : GE Γ e m) (hg : Glb Γ "tuple" := by rfl) (hm : Fre Γ "tuple" := by rfl) (ns : NS e := by intro _ _; rfl) :
    GE Γ (.Call (.Name "tuple" p) [e] [] pos) (.aop .tupOf (.cons m .nil)) := fun X W c => PE.imp (pe_callTy call_tuple_of (gl_of c hg) (bltn_none c hm) boot_tuple (ges_cons ha ges_nil ns X W c) (he := ns _ _)) (callAM oa_tupOf)
theorem ge_lstOf {e : Expr} {m : M} (ha : GE Γ e m) (hg : Glb Γ "list" := by rfl) (hm : Fre Γ "list" := by rfl) (ns : NS e := by intro _ _; rfl) :
    GE Γ (.Call (.Name "list" p) [e] [] pos) (.aop .lstOf (.cons m .nil)) := fun X W c => PE.imp (pe_callTy call_list_of (gl_of c hg) (bltn_none c hm) boot_list (ges_cons ha ges_nil ns X W c) (he := ns _ _)) (callAM oa_lstOf)
/-! ### and, or, not, if -/
theorem ev_and {call : Nat → List D → Rr} {cur : Cur} {a b : M} {E : En} : ev call cur (.and a b) E = (ev call cur a E).bind fun d E1 => match d with
    | .bl true => ev call cur b E1
    | .bl false => .ok (D.bl false) E1
    | _ => .bad := by
  show (match ev call cur a E with
    | R.ok (D.bl true) E1 => ev call cur b E1
    | R.ok (D.bl false) E1 => R.ok (D.bl false) E1
    | R.exc c d E1 => R.exc c d E1
    | _ => R.bad) = _
  cases ev call cur a E with
  | ok d E1 => cases d <;> first | rfl | (rename_i k; cases k <;> rfl)
  | exc c d E1 => rfl
  | bad => rfl
theorem ev_or {call : Nat → List D → Rr} {cur : Cur} {a b : M} {E : En} : ev call cur (.or a b) E = (ev call cur a E).bind fun d E1 => match d with
    | .bl true => .ok (.bl true) E1
    | .bl false => ev call cur b E1
    | _ => .bad := by
  show (match ev call cur a E with
    | R.ok (D.bl true) E1 => R.ok (D.bl true) E1
    | R.ok (D.bl false) E1 => ev call cur b E1
    | R.exc c d E1 => R.exc c d E1
    | _ => R.bad) = _
  cases ev call cur a E with
  | ok d E1 => cases d <;> first | rfl | (rename_i k; cases k <;> rfl)
  | exc c d E1 => rfl
  | bad => rfl
theorem ev_not {call : Nat → List D → Rr} {cur : Cur} {a : M} {E : En} : ev call cur (.not a) E = (ev call cur a E).bind fun d E1 => match d with
    | .bl k => .ok (.bl (!k)) E1
    | _ => .bad := by
  show (match ev call cur a E with
    | R.ok (D.bl c) E1 => R.ok (D.bl (!c)) E1
    | R.exc c d E1 => R.exc c d E1
    | _ => R.bad) = _
  cases ev call cur a E with
  | ok d E1 => cases d <;> rfl
  | exc c d E1 => rfl
  | bad => rfl
theorem ev_ite {call : Nat → List D → Rr} {cur : Cur} {t a b : M} {E : En} : ev call cur (.ite t a b) E = (ev call cur t E).bind fun d E1 => match d with
    | .bl true => ev call cur a E1
    | .bl false => ev call cur b E1
    | _ => .bad := by
  show (match ev call cur t E with
    | R.ok (D.bl true) E1 => ev call cur a E1
    | R.ok (D.bl false) E1 => ev call cur b E1
    | R.exc c d E1 => R.exc c d E1
    | _ => R.bad) = _
  cases ev call cur t E with
  | ok d E1 => cases d <;> first | rfl | (rename_i k; cases k <;> rfl)
  | exc c d E1 => rfl
  | bad => rfl
/-- from the state behind a part to what is wanted of the rest -/
theorem Bs.shift {X : Cx} {W : WX} {σ : L2.St} {α β : Type} {F F1 : Hp} {L L1 : Fp} {H H1 : Hp} {rep : Hp → α → β → Fp → Prop} {r : R α} {Q : β → Hp → Prop} (s : Step F L H F1 L1 H1) (h : Bs Γ X W σ F L H rep r Q) : Bs Γ X W σ F1 L1 H1 rep r Q := by
  cases r with
  | ok a E => exact fun b H2 F2 M1 M2 t o q => h b H2 F2 M1 M2 (s.trans t) o q
  | exc c d E => exact fun cls dd H2 F2 M1 t o q => h cls dd H2 F2 M1 (s.trans t) o q
  | bad => exact h
theorem Bs.toB {X : Cx} {W : WX} {σ : L2.St} {F : Hp} {L : Fp} {H : Hp} {r : R D} {Q : Bool → Hp → Prop} (h : Bs Γ X W σ F L H (ro X) r fun x H1 => ∃ c, x = V.bl c ∧ Q c H1) : Bs Γ X W σ F L H (ro X) r fun x H1 => ∃ c, x = V.bl c ∧ Q c H1 := h
theorem and_of {X : Cx} {W : WX} {ma mb : M} {σ : L2.St} {H : Hp} {Q : Bool → Hp → Prop} (h : tB (tE Γ X W (.and ma mb)) σ H Q) : tB (tE Γ X W ma) σ H fun c H1 => if c = true then tB (tE Γ X W mb) σ H1 Q else Q false H1 := by
  obtain ⟨F, L, E, cur, rl, q⟩ := h
  rw [ev_and] at q
  refine ⟨F, L, E, cur, rl, Bs.bind0 rl.ok q fun d E1 q1 v H1 F1 L1 L2 s1 o1 o2 => ?_⟩
  split at q1
  · refine ⟨true, bl_inv o2, iteT ?_⟩
    exact ⟨F1, L1, E1, cur, rl.on s1 sub_r o1, q1.shift (s1.sub sub_r)⟩
  · refine ⟨false, bl_inv o2, iteF ?_⟩
    obtain ⟨k, hk, q2⟩ := q1 (.bl false) H1 F1 L1 [] (s1.sub sub_r) o1 bl_own
    cases hk
    exact q2
  · exact q1.elim
theorem or_of {X : Cx} {W : WX} {ma mb : M} {σ : L2.St} {H : Hp} {Q : Bool → Hp → Prop} (h : tB (tE Γ X W (.or ma mb)) σ H Q) : tB (tE Γ X W ma) σ H fun c H1 => if c = true then Q true H1 else tB (tE Γ X W mb) σ H1 Q := by
  obtain ⟨F, L, E, cur, rl, q⟩ := h
  rw [ev_or] at q
  refine ⟨F, L, E, cur, rl, Bs.bind0 rl.ok q fun d E1 q1 v H1 F1 L1 L2 s1 o1 o2 => ?_⟩
  split at q1
  · refine ⟨true, bl_inv o2, iteT ?_⟩
    obtain ⟨k, hk, q2⟩ := q1 (.bl true) H1 F1 L1 [] (s1.sub sub_r) o1 bl_own
    cases hk
    exact q2
  · refine ⟨false, bl_inv o2, iteF ?_⟩
    exact ⟨F1, L1, E1, cur, rl.on s1 sub_r o1, q1.shift (s1.sub sub_r)⟩
  · exact q1.elim
theorem gw_and1 {a : Expr} {ma : M} (ha : GT Γ a ma) : GW Γ (.BoolOp .And [a] pos) ma := fun X W c => pw_and1 (ha X W c)
theorem gw_or1 {a : Expr} {ma : M} (ha : GT Γ a ma) : GW Γ (.BoolOp .Or [a] pos) ma := fun X W c => pw_or1 (ha X W c)
theorem gw_and {a b : Expr} {rest : List Expr} {ma mb : M} (ha : GT Γ a ma) (hb : GW Γ (.BoolOp .And (b :: rest) pos) mb) : GW Γ (.BoolOp .And (a :: b :: rest) pos) (.and ma mb) := fun X W c => PW.imp (pw_and (ha X W c) (hb X W c)) fun σ H Q h => and_of h
theorem gw_or {a b : Expr} {rest : List Expr} {ma mb : M} (ha : GT Γ a ma) (hb : GW Γ (.BoolOp .Or (b :: rest) pos) mb) : GW Γ (.BoolOp .Or (a :: b :: rest) pos) (.or ma mb) := fun X W c => PW.imp (pw_or (ha X W c) (hb X W c)) fun σ H Q h => or_of h
theorem gt_not {a : Expr} {ma : M} (ha : GT Γ a ma) : GT Γ (.UnaryOp .Not a pos) (.not ma) := fun X W c => PT.imp (pt_not (ha X W c)) fun σ H Q h => by
  obtain ⟨F, L, E, cur, rl, q⟩ := h
  rw [ev_not] at q
  refine ⟨F, L, E, cur, rl, Bs.bind0 rl.ok q fun d E1 q1 v H1 F1 L1 L2 s1 o1 o2 => ?_⟩
  split at q1
  · rename_i k
    refine ⟨k, bl_inv o2, ?_⟩
    obtain ⟨k', hk, q2⟩ := q1 (.bl (!k)) H1 F1 L1 [] (s1.sub sub_r) o1 bl_own
    cases hk
    exact q2
  · exact q1.elim
theorem ge_one {a : Expr} {ma : M} {op} (ha : GE Γ a ma) : GE Γ (.BoolOp op [a] pos) ma := fun X W c => pe_one (ha X W c)
theorem ge_and {a b : Expr} {rest : List Expr} {ma mb : M} (ha : GE Γ a ma) (hb : GE Γ (.BoolOp .And (b :: rest) pos) mb) : GE Γ (.BoolOp .And (a :: b :: rest) pos) (.and ma mb) := fun X W c => PE.imp (pe_and (ha X W c) (hb X W c)) fun σ H Q h => by
  obtain ⟨F, L, E, cur, rl, q⟩ := h
  rw [ev_and] at q
  refine ⟨F, L, E, cur, rl, Bs.bind0 rl.ok q fun d E1 q1 v H1 F1 L1 L2 s1 o1 o2 => ?_⟩
  split at q1
  · refine ⟨true, bl_inv o2, iteT ?_⟩
    exact ⟨F1, L1, E1, cur, rl.on s1 sub_r o1, q1.shift (s1.sub sub_r)⟩
  · refine ⟨false, bl_inv o2, iteF ?_⟩
    exact q1 (.bl false) H1 F1 L1 [] (s1.sub sub_r) o1 bl_own
  · exact q1.elim
theorem ge_or {a b : Expr} {rest : List Expr} {ma mb : M} (ha : GE Γ a ma) (hb : GE Γ (.BoolOp .Or (b :: rest) pos) mb) : GE Γ (.BoolOp .Or (a :: b :: rest) pos) (.or ma mb) := fun X W c => PE.imp (pe_or (ha X W c) (hb X W c)) fun σ H Q h => by
  obtain ⟨F, L, E, cur, rl, q⟩ := h
  rw [ev_or] at q
  refine ⟨F, L, E, cur, rl, Bs.bind0 rl.ok q fun d E1 q1 v H1 F1 L1 L2 s1 o1 o2 => ?_⟩
  split at q1
  · refine ⟨true, bl_inv o2, iteT ?_⟩
    exact q1 (.bl true) H1 F1 L1 [] (s1.sub sub_r) o1 bl_own
  · refine ⟨false, bl_inv o2, iteF ?_⟩
    exact ⟨F1, L1, E1, cur, rl.on s1 sub_r o1, q1.shift (s1.sub sub_r)⟩
  · exact q1.elim
theorem ge_not {a : Expr} {ma : M} (ha : GE Γ a ma) : GE Γ (.UnaryOp .Not a pos) (.not ma) := fun X W c => PE.imp (pe_not (ha X W c)) fun σ H Q h => by
  obtain ⟨F, L, E, cur, rl, q⟩ := h
  rw [ev_not] at q
  refine ⟨F, L, E, cur, rl, Bs.bind0 rl.ok q fun d E1 q1 v H1 F1 L1 L2 s1 o1 o2 => ?_⟩
  split at q1
  · rename_i k
    refine ⟨k, bl_inv o2, ?_⟩
    exact q1 (.bl (!k)) H1 F1 L1 [] (s1.sub sub_r) o1 bl_own
  · exact q1.elim
theorem ge_ite {t a b : Expr} {mt ma mb : M} (ht : GT Γ t mt) (ha : GE Γ a ma) (hb : GE Γ b mb) : GE Γ (.IfExp t a b pos) (.ite mt ma mb) := fun X W c => PE.imp (pe_ifExp (ht X W c) (ha X W c) (hb X W c)) fun σ H Q h => by
  obtain ⟨F, L, E, cur, rl, q⟩ := h
  rw [ev_ite] at q
  refine ⟨F, L, E, cur, rl, Bs.bind0 rl.ok q fun d E1 q1 v H1 F1 L1 L2 s1 o1 o2 => ?_⟩
  split at q1
  · refine ⟨true, bl_inv o2, iteT ?_⟩
    exact ⟨F1, L1, E1, cur, rl.on s1 sub_r o1, q1.shift (s1.sub sub_r)⟩
  · refine ⟨false, bl_inv o2, iteF ?_⟩
    exact ⟨F1, L1, E1, cur, rl.on s1 sub_r o1, q1.shift (s1.sub sub_r)⟩
  · exact q1.elim
end
end VM

/-! Part I: calls of defs, of list methods. -/
namespace VM
open PySem PySem.Spec L2

/-- the names that are lent stand in their slots -/
def lent (σ : L2.St) : As → List V → Prop
  | .nil, vs => vs = []
  | .nm i r, vs => ∃ v r', vs = v :: r' ∧ σ[i]? = some (some v) ∧ lent σ r r'
  | .ex _ r, vs => ∃ v r', vs = v :: r' ∧ lent σ r r'
theorem back_own {K : PySem.W.Frag} {F : Hp} {σ : L2.St} : ∀ {as : As} {vs : List V} {ps : List D} {E : En} {L M : Fp}, lent σ as vs → OwnE K F E σ L → OwnL K F ps vs M → ∃ L', OwnE K F (back as ps E) σ L' ∧ Prt L' (M ++ L)
  | .nil, _, _, E, L, M, h, o, _ => ⟨L, by unfold back; exact o, Prt.right⟩
  | .nm i r, _, [], E, L, M, h, o, q => by
    obtain ⟨v, r', rfl, _⟩ := h
    cases q.1
  | .nm i r, _, p :: ps, E, L, M, h, o, q => by
    obtain ⟨v, r', rfl, hv, hr⟩ := h
    obtain ⟨v', r'', M1, M2, e, rfl, q1, q2⟩ := q
    cases e
    unfold back
    split
    · rename_i e
      obtain ⟨L1, o1, p1⟩ := o.fillS e hv q1
      obtain ⟨L', o2, p2⟩ := back_own (as := r) hr o1 q2
      refine ⟨L', o2, p2.trans ((Prt.app (Prt.refl M2) p1).trans ?_)⟩
      refine (Prt.of_perm (List.perm_append_comm_assoc M2 M1 L)).trans ?_
      rw [List.append_assoc]
      exact Prt.refl _
    · obtain ⟨L', o2, p2⟩ := back_own (as := r) hr o q2
      refine ⟨L', o2, p2.trans ?_⟩
      rw [List.append_assoc]
      exact Prt.right
  | .ex m r, _, [], E, L, M, h, o, q => by
    obtain ⟨v, r', rfl, hr⟩ := h
    cases q.1
  | .ex m r, _, p :: ps, E, L, M, h, o, q => by
    obtain ⟨v, r', rfl, hr⟩ := h
    obtain ⟨v', r'', M1, M2, e, rfl, q1, q2⟩ := q
    cases e
    unfold back
    obtain ⟨L', o2, p2⟩ := back_own (as := r) hr o q2
    refine ⟨L', o2, p2.trans ?_⟩
    rw [List.append_assoc]
    exact Prt.right
abbrev roA (X : Cx) (σ : L2.St) (as : As) : Hp → List D → List V → Fp → Prop := fun F d v L => OwnL X.K F d v L ∧ lent σ as v
def tA (Γ : Ctx) (X : Cx) (W : WX) (m : As) : TA := fun σ H Q => ∃ F L E cur, Rel Γ X cur E F L σ H ∧ Bs Γ X W σ F L H (roA X σ m) (evA Γ.call cur m E) Q
def GA (Γ : Ctx) (es : List Expr) (m : As) : Prop := ∀ X W, CtxOk Γ X W → PA X es (tA Γ X W m)
section
variable {Γ : Ctx} {pos p p2 apos : Pos}
theorem evA_ex {call : Nat → List D → Rr} {cur : Cur} {a : M} {r : As} {E : En} : evA call cur (.ex a r) E = (ev call cur a E).bind fun d E1 => (evA call cur r E1).bind fun ds E2 => .ok (d :: ds) E2 := by
  show (match ev call cur a E with
    | R.ok d E1 => (match evA call cur r E1 with
      | R.ok ds E2 => R.ok (d :: ds) E2
      | R.exc c d E2 => R.exc c d E2
      | R.bad => R.bad)
    | R.exc c d E1 => R.exc c d E1
    | R.bad => R.bad) = _
  cases ev call cur a E with
  | ok d E1 =>
    show (match evA call cur r E1 with
      | R.ok ds E2 => R.ok (d :: ds) E2
      | R.exc c d E2 => R.exc c d E2
      | R.bad => R.bad) = (evA call cur r E1).bind fun ds E2 => .ok (d :: ds) E2
    cases evA call cur r E1 <;> rfl
  | exc c d E1 => rfl
  | bad => rfl
theorem evA_nm {call : Nat → List D → Rr} {cur : Cur} {i : Nat} {r : As} {E : En} {d : D} (e : E[i]? = some (some d)) : evA call cur (.nm i r) E = (evA call cur r E).bind fun ds E2 => match E2[i]? with
    | some (some d) => .ok (d :: ds) (if d.fz = true then E2 else E2.set i none)
    | _ => .bad := by
  show (match E[i]? with
    | some (some _) => (match evA call cur r E with
      | R.ok ds E2 => (match E2[i]? with
        | some (some d) => R.ok (d :: ds) (if d.fz = true then E2 else E2.set i none)
        | _ => R.bad)
      | R.exc c d E2 => R.exc c d E2
      | R.bad => R.bad)
    | _ => R.bad) = _
  rw [e]
  show (match evA call cur r E with
      | R.ok ds E2 => (match E2[i]? with
        | some (some d) => R.ok (d :: ds) (if d.fz = true then E2 else E2.set i none)
        | _ => R.bad)
      | R.exc c d E2 => R.exc c d E2
      | R.bad => R.bad) = _
  cases evA call cur r E <;> rfl
theorem evA_no {call : Nat → List D → Rr} {cur : Cur} {i : Nat} {r : As} {E : En} (e : ∀ d, E[i]? ≠ some (some d)) : evA call cur (.nm i r) E = .bad := by
  show (match E[i]? with
    | some (some _) => (match evA call cur r E with
      | R.ok ds E2 => (match E2[i]? with
        | some (some d) => R.ok (d :: ds) (if d.fz = true then E2 else E2.set i none)
        | _ => R.bad)
      | R.exc c d E2 => R.exc c d E2
      | R.bad => R.bad)
    | _ => R.bad) = _
  split
  · rename_i d h
    exact absurd h (e d)
  · rfl
theorem ga_nil : GA Γ [] .nil := fun X W c => PA.imp pa_nil fun σ H Q h => by
  obtain ⟨F, L, E, cur, rl, q⟩ := h
  exact q [] H F L [] (Step.refl rl.ok) rl.own ⟨⟨rfl, rfl⟩, rfl⟩
theorem ga_ex {e : Expr} {es : List Expr} {m : M} {as : As} (h : GE Γ e m) (hr : GA Γ es as) (ns : NS e := by intro _ _; rfl) : GA Γ (e :: es) (.ex m as) := fun X W c => PA.imp (pa_cons (h X W c) (hr X W c) (ns _ _)) fun σ H Q h => by
  obtain ⟨F, L, E, cur, rl, q⟩ := h
  rw [evA_ex] at q
  refine ⟨F, L, E, cur, rl, Bs.bind0 rl.ok q fun d E1 q1 v H1 F1 L1 L2 s1 o1 o2 => ?_⟩
  refine ⟨F1, L1, E1, cur, rl.on s1 sub_r o1, Bs.bindS s1 q1 fun ds E2 q2 vs H2 F2 L1' L2' s2 s3 o3 o4 => ?_⟩
  refine q2 (v :: vs) H2 F2 L1' (L2 ++ L2') ?_ o3 ⟨⟨v, vs, L2, L2', rfl, rfl, o2.mono s2.ff, o4.1⟩, v, vs, rfl, o4.2⟩
  rw [List.append_assoc]
  exact s3
theorem ga_nm {i : Nat} {x : Str} {es : List Expr} {as : As} (hr : GA Γ es as) (hN : Γ.N[i]? = some x := by rfl) (hv : Vis Γ.sc x := by first | exact Or.inl rfl | exact Or.inr (Or.inl rfl) | exact Or.inr (Or.inr rfl)) (hd : (x == ("__debug__" : Str)) = false := by decide) (hcd : (x == ("__classdict__" : Str)) = false := by decide) :
    GA Γ (.Name x pos :: es) (.nm i as) := fun X W c => PA.imp (pa_cons (pe_var (i := i) (by rw [c.n]; exact hN) (by rw [c.sc]; exact hv) hd hcd) (hr X W c) rfl) fun σ H Q h => by
  obtain ⟨F, L, E, cur, rl, q⟩ := h
  by_cases hd : ∃ d, E[i]? = some (some d)
  · obtain ⟨d, e⟩ := hd
    rw [evA_nm e] at q
    obtain ⟨v, _, h1, _, _⟩ := rl.own.get e
    refine ⟨v, h1, F, L, E, cur, rl, Bs.bind0 rl.ok q fun ds E2 q2 vs H2 F2 L1' L2' s2 o3 o4 => ?_⟩
    cases e2 : E2[i]? with
    | none =>
      rw [e2] at q2
      exact q2.elim
    | some o =>
      cases o with
      | none =>
        rw [e2] at q2
        exact q2.elim
      | some d2 =>
        rw [e2] at q2
        have q2 : Bs Γ X W σ F L H (roA X σ (.nm i as)) (.ok (d2 :: ds) (if d2.fz = true then E2 else E2.set i none)) Q := q2
        by_cases hf : d2.fz = true
        · rw [if_pos hf] at q2
          obtain ⟨v2, L5, k1, k2, k3⟩ := o3.get e2
          rw [h1] at k1
          cases k1
          have n := Own.fz_nil hf k3
          subst n
          exact q2 (v :: vs) H2 F2 L1' L2' s2 o3 ⟨⟨v, vs, [], L2', rfl, rfl, k3, o4.1⟩, v, vs, rfl, h1, o4.2⟩
        · rw [if_neg hf] at q2
          obtain ⟨v2, L5, L6, k1, k2, k3, k4⟩ := o3.take e2
          rw [h1] at k1
          cases k1
          refine q2 (v :: vs) H2 F2 L6 (L5 ++ L2') (s2.perm ?_) k3 ⟨⟨v, vs, L5, L2', rfl, rfl, k2, o4.1⟩, v, vs, rfl, h1, o4.2⟩
          have e5 : (L5 ++ (L2' ++ L6)).Perm (L2' ++ (L5 ++ L6)) := List.perm_append_comm_assoc L5 L2' L6
          rw [List.append_assoc]
          exact e5.trans (List.Perm.append_left L2' k4)
  · rw [evA_no fun d e => hd ⟨d, e⟩] at q
    exact q.elim
/-! ### a def of the module -/
theorem ev_call {call : Nat → List D → Rr} {cur : Cur} {f : Nat} {as : As} {E : En} : ev call cur (.call f as) E = (evA call cur as E).bind fun ds E1 => match call f ds with
    | .ret d ps => .ok d (back as ps E1)
    | .exc c d ps => .exc c d (back as ps E1)
    | .bad => .bad := by
  unfold ev R.bind
  cases evA call cur as E <;> rfl
theorem call_rule {X : Cx} {W : WX} {f : Nat} {as : As} (σ : L2.St) (H : Hp) (Q : VK) (h : tE Γ X W (.call f as) σ H Q) : tA Γ X W as σ H fun vs H1 => spRun X.K X.mg Γ.enm Γ.tbs Γ.call f vs H1 Q fun cls dd H' => W cls dd σ H' := by
  obtain ⟨F, L, E, cur, rl, q⟩ := h
  rw [ev_call] at q
  refine ⟨F, L, E, cur, rl, Bs.bind0 rl.ok q fun ds E1 q1 vs H1 F1 L1 L2 s1 o1 o2 => ?_⟩
  refine ⟨F1, L2, ds, s1.ok.sub sub_l, o2.1, fun P h => s1.tab P (rl.tab P h), ?_⟩
  cases e : Γ.call f ds with
  | ret d ps =>
    rw [e] at q1
    intro v H' F' M1 M2 t o3 o4
    obtain ⟨L', o5, p5⟩ := back_own o2.2 (o1.mono t.ff) o3
    refine q1 v H' F' L' M2 ((s1.frame t).prt ?_) o5 o4
    rw [List.append_assoc]
    exact Prt.app (Prt.refl _) p5
  | exc c d ps =>
    rw [e] at q1
    intro cls dd H' F' M1 t o3 o4
    obtain ⟨L', o5, p5⟩ := back_own o2.2 (o1.mono t.ff) o3
    exact q1 cls dd H' F' L' ((s1.frame t).prt p5) o5 o4
  | bad =>
    rw [e] at q1
    exact q1
/-- f(e, ..) of a def that wants no guard below -/
theorem pe_callG {X : Cx} {lev : Nat} {f : Addr} {fd : FuncData} {ps : List Str} {sp : Sp} {Ex : L2.St → XK} {x : Str} {e : Expr} {es : List Expr} {t : TA} (F : FnG X.prog X.w X.K X.mg X.base lev f fd ps sp) (gd : X.A.guards = some []) (room : Room lev X.A)
    (glob : Gl X x) (at_ : X.mg x = some (.ref f)) (kp : PySem.W.keepIn X.K (.ref f) = true) (bd : Binds X.K fd ps []) (lv : ∀ σ, PassesAt (L2.CX X.prog X.w) X σ (Ex σ)) (ha : PA X (e :: es) t) (hdb : (x == ("__debug__" : Str)) = false)
    (ns : starEach (e :: es) X.env = (false, eval e X.env) :: starEach es X.env) (pl : (backTo pos (starEach es X.env)).any (·.1) = false) : PE X (.Call (.Name x p) (e :: es) [] pos) (tCallS sp Ex t) := ⟨fun pins s σ H Q I h =>
  wpAny_Call_Name_kw (ld_glob I glob at_ (PySem.W.callWith_K (h₀ := X.base) I.ok.mod.kin kp (thn (ha.run pos pins s σ H _ I h) fun us s1 z => by
    obtain ⟨vs, H1, J, rv, q⟩ := z
    have n : (us ++ ([] : List Value)).length = ps.length := by rw [List.append_nil, ← rv.length]; exact F.many q
    have b := bd s1 us J.kIn n
    rw [List.append_nil] at b
    refine ⟨J.kIn, wpAny_call (codeAny_mono (F.runs gd room J.env0 b rv q) fun res s2 w => ?_)⟩
    match res, w with
    | .error er, w => exact lv σ pins H1 s1 er s2 J w
    | .ok (.ret u), w => exact J.after w) ns pl) hdb)⟩
theorem ge_call {f : Nat} {x : Str} {e : Expr} {es : List Expr} {as : As} (hf : Γ.fnm f = some x := by rfl) (hc : Γ.calm = true) (ha : GA Γ (e :: es) as) (hg : Glb Γ x := by rfl) (hdb : (x == ("__debug__" : Str)) = false := by decide) (ns : NS e := by intro _ _; rfl) (hpl : ∀ env : PySem.Env, (backTo pos (starEach es env)).any (·.1) = false := by intro _; rfl) :
    GE Γ (.Call (.Name x p) (e :: es) [] pos) (.call f as) := fun X W c => by
  obtain ⟨a, fd, ps, h1, h2, h3, h4⟩ := c.fns f x hf
  exact PE.imp (pe_callG h4 c.gd (c.rm hc) (gl_of c hg) h1 h2 h3 (fun σ => passAt c.tk σ) (ha X W c) hdb (ns _ _) (hpl _)) call_rule
end
end VM

/-! Part J: methods of a list at a name. -/
namespace VM
open PySem PySem.Spec L2

/-- what a method says of data and what it wants of the heap -/
def MutS (K : PySem.W.Frag) (o : Mut) (r : V → List V → Hp → VK → Prop) : Prop := ∀ F H l ws Lc xs ds vs M d ys Q, Same F H → InH M H → H l = some (.lst ws) → OwnL K F xs ws Lc → OwnL K F ds vs M → mutD o xs ds = some (d, ys) →
  (∀ v' ws' Lc' M', OwnL K F ys ws' Lc' → Own K F d v' M' → Prt (M' ++ Lc') (M ++ Lc) → Q v' (upd H l (.lst ws'))) → r (.ref l) vs H Q
section
variable {K : PySem.W.Frag}
theorem ms_append : MutS K .append rAppend := fun F H l ws Lc xs ds vs M d ys Q fH i hl o q e k => by
  match ds, e with
  | [y], e =>
    have e : (if xs.length < sizeLine then some (D.non, xs ++ [y]) else none) = some (d, ys) := e
    split at e
    · rename_i hz
      cases e
      obtain ⟨v, rfl, h⟩ := ownL_one q
      refine ⟨l, ws, v, rfl, rfl, hl, by rw [← o.length]; exact hz, k .non _ (Lc ++ M) [] (o.append ⟨v, [], M, [], rfl, by rw [List.append_nil], h, rfl, rfl⟩) non_own ?_⟩
      rw [List.nil_append]
      exact Prt.swap
    · cases e
  | [], e => cases e
  | _ :: _ :: _, e => cases e
theorem ms_extend : MutS K .extend rExtend := fun F H l ws Lc xs ds vs M d ys Q fH i hl o q e k => by
  match ds, e with
  | [.lst b zs], e =>
    have e : (if fzL zs = true ∧ xs.length + zs.length ≤ sizeLine then some (D.non, xs ++ zs) else none) = some (d, ys) := e
    split at e
    · rename_i hz
      cases e
      obtain ⟨v, rfl, h⟩ := ownL_one q
      obtain ⟨a, us, M', rfl, h3, h4, _⟩ := list_read h fH i
      have n1 := OwnL.fz_nil hz.1 h4
      subst n1
      refine ⟨l, a, ws, us, rfl, rfl, hl, h3, by rw [← o.length, ← h4.length]; exact hz.2, k .non _ (Lc ++ []) [] (o.append h4) non_own ?_⟩
      rw [List.nil_append, List.append_nil]
      exact Prt.right
    · cases e
  | [.tup _], e => cases e
  | [.non], e => cases e
  | [.bl _], e => cases e
  | [.int _], e => cases e
  | [.str _], e => cases e
  | [.scr _], e => cases e
  | [.dct _ _ _], e => cases e
  | [.ins _ _ _ _], e => cases e
  | [.err _ _], e => cases e
  | [], e => cases e
  | a :: _ :: _, e => cases a <;> cases e
theorem fzL_get {xs : List D} {i : Nat} {d : D} (h : fzL xs = true) (e : xs[i]? = some d) : d.fz = true := List.all_eq_true.mp h d (List.mem_of_getElem? e)
theorem OwnL.at_ {F : Hp} {xs : List D} {ws : List V} {i : Nat} {d : D} (o : OwnL K F xs ws []) (e : xs[i]? = some d) : ∃ v, ws[i]? = some v ∧ Own K F d v [] := by
  obtain ⟨v, L1, h1, h2, h3⟩ := o.get e
  have : L1 = [] := List.sublist_nil.mp h2
  subst this
  exact ⟨v, h1, h3⟩
theorem dropLast_take {α : Type} (l : List α) : l.dropLast = l.take (l.length - 1) := List.dropLast_eq_take
theorem ms_pop : MutS K .pop rPop := fun F H l ws Lc xs ds vs M d ys Q fH i hl o q e k => by
  match ds, e with
  | [], e =>
    have e : (if fzL xs = true then xs[xs.length - 1]?.map fun y => (y, xs.dropLast) else none) = some (d, ys) := e
    split at e
    · rename_i hz
      obtain ⟨y, hy, e2⟩ := Option.map_eq_some_iff.mp e
      cases e2
      obtain ⟨rfl, rfl⟩ := q
      have n1 := OwnL.fz_nil hz o
      subst n1
      have ll := o.length
      obtain ⟨v, h1, h2⟩ := o.at_ hy
      rw [ll] at h1
      refine ⟨l, ws, v, rfl, rfl, hl, h1, k v _ [] [] ?_ h2 (Prt.refl _)⟩
      rw [dropLast_take, dropLast_take, ll]
      exact o.take _
    · cases e
  | _ :: _, e => cases e
theorem eraseIdx_eq {α : Type} (l : List α) (k : Nat) : l.eraseIdx k = l.take k ++ l.drop (k + 1) := List.eraseIdx_eq_take_drop_succ l k
theorem ms_popAt : MutS K .popAt rPopAt := fun F H l ws Lc xs ds vs M d ys Q fH i hl o q e k => by
  match ds, e with
  | [.int j], e =>
    have e : (if fzL xs = true ∧ -(2 ^ 63) ≤ j ∧ j < 2 ^ 63 then (seqIndex? j xs.length).bind fun k => xs[k]?.map fun y => (y, xs.eraseIdx k) else none) = some (d, ys) := e
    split at e
    · rename_i hz
      obtain ⟨p, hp, e2⟩ := Option.bind_eq_some_iff.mp e
      obtain ⟨y, hy, e3⟩ := Option.map_eq_some_iff.mp e2
      cases e3
      obtain ⟨v0, rfl, h⟩ := ownL_one q
      have n1 := OwnL.fz_nil hz.1 o
      subst n1
      have n2 := Own.fz_nil rfl h
      subst n2
      have ll := o.length
      obtain ⟨v, h1, h2⟩ := o.at_ hy
      rw [ll] at hp
      refine ⟨l, ws, j, p, v, rfl, by rw [own_int h], hl, hz.2.1, hz.2.2, hp, h1, k v _ [] [] ?_ h2 (Prt.refl _)⟩
      rw [eraseIdx_eq, eraseIdx_eq]
      simpa using (o.take p).append (o.drop (p + 1))
    · cases e
  | [.non], e => cases e
  | [.bl _], e => cases e
  | [.str _], e => cases e
  | [.tup _], e => cases e
  | [.lst _ _], e => cases e
  | [.scr _], e => cases e
  | [.dct _ _ _], e => cases e
  | [.ins _ _ _ _], e => cases e
  | [.err _ _], e => cases e
  | [], e => cases e
  | a :: _ :: _, e => cases a <;> cases e
end
section
variable {Γ : Ctx} {pos p p2 apos : Pos}
theorem ev_mut {call : Nat → List D → Rr} {cur : Cur} {o : Mut} {i : Nat} {as : Ms} {E : En} {zs : List D} (e : E[i]? = some (some (.lst true zs))) : ev call cur (.mut o i as) E = (evs call cur as E).bind fun ds E1 => match E1[i]? with
    | some (some (.lst true xs)) => (match mutD o xs ds with
      | some (d, ys) => .ok d (E1.set i (some (.lst true ys)))
      | none => .bad)
    | _ => .bad := by
  show (match E[i]? with
    | some (some (.lst true _)) => (match evs call cur as E with
      | R.ok ds E1 => (match E1[i]? with
        | some (some (.lst true xs)) => (match mutD o xs ds with
          | some (d, ys) => R.ok d (E1.set i (some (.lst true ys)))
          | none => R.bad)
        | _ => R.bad)
      | R.exc c d E1 => R.exc c d E1
      | R.bad => R.bad)
    | _ => R.bad) = _
  rw [e]
  show (match evs call cur as E with
      | R.ok ds E1 => (match E1[i]? with
        | some (some (.lst true xs)) => (match mutD o xs ds with
          | some (d, ys) => R.ok d (E1.set i (some (.lst true ys)))
          | none => R.bad)
        | _ => R.bad)
      | R.exc c d E1 => R.exc c d E1
      | R.bad => R.bad) = _
  cases evs call cur as E <;> rfl
theorem ev_mut_at {call : Nat → List D → Rr} {cur : Cur} {o : Mut} {i : Nat} {as : Ms} {E : En} : ev call cur (.mut o i as) E = .bad ∨ ∃ zs, E[i]? = some (some (.lst true zs)) := by
  have h : ev call cur (.mut o i as) E = (match E[i]? with
    | some (some (.lst true _)) => (match evs call cur as E with
      | R.ok ds E1 => (match E1[i]? with
        | some (some (.lst true xs)) => (match mutD o xs ds with
          | some (d, ys) => R.ok d (E1.set i (some (.lst true ys)))
          | none => R.bad)
        | _ => R.bad)
      | R.exc c d E1 => R.exc c d E1
      | R.bad => R.bad)
    | _ => R.bad) := rfl
  rw [h]
  split
  · rename_i z e
    exact .inr ⟨_, e⟩
  · exact .inl rfl
/-- behind the arguments: the list is turned -/
theorem mut_end {X : Cx} {W : WX} {σ : L2.St} {F F1 : Hp} {L L1 L2 : Fp} {H H1 : Hp} {o : Mut} {r : V → List V → Hp → VK → Prop} (ms : MutS X.K o r) {i : Nat} {v : V} {ds : List D} {vs : List V} {E1 : En} {Q : VK} (hv : σ[i]? = some (some v)) (s1 : Step F L H F1 (L2 ++ L1) H1) (o1 : OwnE X.K F1 E1 σ L1) (o2 : OwnL X.K F1 ds vs L2)
    (q1 : Bs Γ X W σ F L H (ro X) (match E1[i]? with
      | some (some (.lst true xs)) => (match mutD o xs ds with
        | some (d, ys) => R.ok d (E1.set i (some (.lst true ys)))
        | none => R.bad)
      | _ => R.bad) Q) : r v vs H1 Q := by
  split at q1
  · rename_i xs e
    split at q1
    · rename_i d ys em
      obtain ⟨v', La, Lb, h1, h2, h3, h4⟩ := o1.take e
      rw [hv] at h1
      cases h1
      obtain ⟨a, ws, Lc, rfl, rfl, h5⟩ := h2
      have i1 := s1.ok.inH
      have ha : H1 a = some (.lst ws) := i1 (a, .lst ws) (List.mem_append_right _ (h4.mem_iff.mp (List.mem_append_left _ List.mem_cons_self)))
      refine ms F1 H1 a ws Lc xs ds vs L2 d ys _ s1.ok.fH (fun p hp => i1 p (List.mem_append_left _ hp)) ha h5 o2 em fun u ws' Lc' M' o5 o6 pr => ?_
      have pm : ((a, HO.lst ws) :: (L2 ++ (Lc ++ Lb))).Perm (L2 ++ L1) := by
        refine List.perm_middle.symm.trans ?_
        exact List.Perm.append_left L2 h4
      have s2 := s1.perm pm
      have s3 := s2.trans (Step.write s2.ok (.lst ws'))
      obtain ⟨L', o7, p7⟩ := h3.fillS (i := i) (d := .lst true ys) (v := .ref a) (M := (a, .lst ws') :: Lc') (get_set (List.getElem?_eq_some_iff.mp e).1) hv ⟨a, ws', Lc', rfl, rfl, o5⟩
      rw [set_set] at o7
      refine q1 u _ F1 L' M' (s3.prt ?_) o7 o6
      refine (Prt.app (Prt.refl M') p7).trans ?_
      show Prt (M' ++ ((a, HO.lst ws') :: (Lc' ++ Lb))) _
      refine (Prt.of_perm List.perm_middle).trans ?_
      show Prt ([(a, HO.lst ws')] ++ (M' ++ (Lc' ++ Lb))) ([(a, HO.lst ws')] ++ (L2 ++ (Lc ++ Lb)))
      refine Prt.app (Prt.refl _) ?_
      rw [← List.append_assoc, ← List.append_assoc]
      exact Prt.app pr (Prt.refl _)
    · exact q1.elim
  · exact q1.elim
theorem mut_rule {X : Cx} {W : WX} {o : Mut} {r : V → List V → Hp → VK → Prop} (ms : MutS X.K o r) {i : Nat} {as : Ms} (σ : L2.St) (H : Hp) (Q : VK) (h : tE Γ X W (.mut o i as) σ H Q) : tBM X.K "list" r (tVar i) (tEs Γ X W as) σ H Q := by
  obtain ⟨F, L, E, cur, rl, q⟩ := h
  rcases ev_mut_at (call := Γ.call) (cur := cur) (o := o) (i := i) (as := as) (E := E) with e | ⟨zs, e⟩
  · rw [e] at q
    exact q.elim
  · rw [ev_mut e] at q
    obtain ⟨v, L1, h1, h2, h3⟩ := rl.own.get e
    obtain ⟨a, us, M', rfl, h4, _⟩ := list_read h3 rl.ok.fH (rl.ok.inH.of (sub_of h2))
    refine ⟨.ref a, h1, .inl ⟨rfl, us, SqL.of h4⟩, F, L, E, cur, rl, Bs.bind0 rl.ok q fun ds E1 q1 vs H1 F1 L1 L2 s1 o1 o2 => mut_end ms h1 s1 o1 o2 q1⟩
theorem mut_rule0 {X : Cx} {W : WX} {o : Mut} {r : V → List V → Hp → VK → Prop} (ms : MutS X.K o r) {i : Nat} (σ : L2.St) (H : Hp) (Q : VK) (h : tE Γ X W (.mut o i .nil) σ H Q) : tBM0 X.K "list" r (tVar i) σ H Q := by
  obtain ⟨F, L, E, cur, rl, q⟩ := h
  rcases ev_mut_at (call := Γ.call) (cur := cur) (o := o) (i := i) (as := .nil) (E := E) with e | ⟨zs, e⟩
  · rw [e] at q
    exact q.elim
  · rw [ev_mut e] at q
    obtain ⟨v, L1, h1, h2, h3⟩ := rl.own.get e
    obtain ⟨a, us, M', rfl, h4, _⟩ := list_read h3 rl.ok.fH (rl.ok.inH.of (sub_of h2))
    exact ⟨.ref a, h1, .inl ⟨rfl, us, SqL.of h4⟩, mut_end (L2 := []) (ds := []) ms h1 (Step.refl rl.ok) rl.own ⟨rfl, rfl⟩ q⟩
section
variable {i : Nat} {x : Str} {e : Expr} {m : M}
theorem ge_append (ha : GE Γ e m) (hN : Γ.N[i]? = some x := by rfl) (hv : Vis Γ.sc x := by first | exact Or.inl rfl | exact Or.inr (Or.inl rfl) | exact Or.inr (Or.inr rfl)) (ns : NS e := by intro _ _; rfl) (hd : (x == ("__debug__" : Str)) = false := by decide) (hcd : (x == ("__classdict__" : Str)) = false := by decide) (hline : (apos.endLine == pos.line) = true := by rfl) :
    GE Γ (.Call (.Attribute (.Name x p) "append" apos) [e] [] pos) (.mut .append i (.cons m .nil)) := fun X W c =>
  PE.imp (pe_bm PySem.F.plainAttrs_list PySem.F.slot_list_append PySem.F.type_list_append mt_append (pe_var (i := i) (by rw [c.n]; exact hN) (by rw [c.sc]; exact hv) hd hcd) (ges_cons ha ges_nil ns X W c) (hfew := by rw [ns] <;> rfl) (hline := hline) (hs := ns _ _)) (mut_rule ms_append)
theorem ge_extend (ha : GE Γ e m) (hN : Γ.N[i]? = some x := by rfl) (hv : Vis Γ.sc x := by first | exact Or.inl rfl | exact Or.inr (Or.inl rfl) | exact Or.inr (Or.inr rfl)) (ns : NS e := by intro _ _; rfl) (hd : (x == ("__debug__" : Str)) = false := by decide) (hcd : (x == ("__classdict__" : Str)) = false := by decide) (hline : (apos.endLine == pos.line) = true := by rfl) :
    GE Γ (.Call (.Attribute (.Name x p) "extend" apos) [e] [] pos) (.mut .extend i (.cons m .nil)) := fun X W c =>
  PE.imp (pe_bm PySem.F.plainAttrs_list PySem.F.slot_list_extend PySem.F.type_list_extend mt_extend (pe_var (i := i) (by rw [c.n]; exact hN) (by rw [c.sc]; exact hv) hd hcd) (ges_cons ha ges_nil ns X W c) (hfew := by rw [ns] <;> rfl) (hline := hline) (hs := ns _ _)) (mut_rule ms_extend)
theorem ge_popAt (ha : GE Γ e m) (hN : Γ.N[i]? = some x := by rfl) (hv : Vis Γ.sc x := by first | exact Or.inl rfl | exact Or.inr (Or.inl rfl) | exact Or.inr (Or.inr rfl)) (ns : NS e := by intro _ _; rfl) (hd : (x == ("__debug__" : Str)) = false := by decide) (hcd : (x == ("__classdict__" : Str)) = false := by decide) (hline : (apos.endLine == pos.line) = true := by rfl) :
    GE Γ (.Call (.Attribute (.Name x p) "pop" apos) [e] [] pos) (.mut .popAt i (.cons m .nil)) := fun X W c =>
  PE.imp (pe_bm PySem.F.plainAttrs_list PySem.F.slot_list_pop PySem.F.type_list_pop mt_popAt (pe_var (i := i) (by rw [c.n]; exact hN) (by rw [c.sc]; exact hv) hd hcd) (ges_cons ha ges_nil ns X W c) (hfew := by rw [ns] <;> rfl) (hline := hline) (hs := ns _ _)) (mut_rule ms_popAt)
theorem ge_pop (hN : Γ.N[i]? = some x := by rfl) (hv : Vis Γ.sc x := by first | exact Or.inl rfl | exact Or.inr (Or.inl rfl) | exact Or.inr (Or.inr rfl)) (hd : (x == ("__debug__" : Str)) = false := by decide) (hcd : (x == ("__classdict__" : Str)) = false := by decide) (hline : (apos.endLine == pos.line) = true := by rfl) :
    GE Γ (.Call (.Attribute (.Name x p) "pop" apos) [] [] pos) (.mut .pop i .nil) := fun X W c =>
  PE.imp (pe_bm0 PySem.F.plainAttrs_list PySem.F.slot_list_pop PySem.F.type_list_pop mt_pop (pe_var (i := i) (by rw [c.n]; exact hN) (by rw [c.sc]; exact hv) hd hcd) (hline := hline)) (mut_rule0 ms_pop)
end
end
end VM

/-! Part K: targets, what is walked, comprehensions. -/
namespace VM
open PySem PySem.Spec PyProof.Rows L2
/-! enumerate of a tuple -/
section
variable {prog : Program} {w : World}
/-- enumerate(t): a walk of the tuple, its count at 0 -/
abbrev tupIt (t : Addr) : Obj := { cls := .type "tuple_iterator", data := .fields #[.ref t, .int 0 0] }
abbrev enmOf (q : Addr) : Obj := { cls := .type "enumerate", data := .fields #[.none, .bool false, .ref q, rawInt 0, .none, .none] }
theorem enum_new_tup (t : Addr) (its : Array Value) : Meets (Builtin.«enumerate.__new__» ⟨[.type "enumerate", .ref t], []⟩) (fun _ R s => s.heap.IsTuple t its ∧
    R (.ok (.ret (.ref (s.heap.push (tupIt t)).objs.size))) { s with heap := (s.heap.push (tupIt t)).push (enmOf s.heap.objs.size) }) := .of_wp fun p v A R s h => by
  obtain ⟨hp, gs, dr, tk, os⟩ := s
  obtain ⟨ht, fin⟩ := h
  have sub0 := sub_enumerate
  wp_walk
  refine wpAny_stack_any fun below => wpAny_pure ?_
  split
  · rename_i k _ _ _ _ _
    cases (k == Value.type "enumerate") <;> (wp_walk using wpAny_pyIter_tuple ht; exact ⟨_, rfl, fin⟩)
  · wp_walk using wpAny_pyIter_tuple ht
    exact ⟨_, rfl, fin⟩
theorem call_enum_tup {A : Around} {E : Value → Shared → Prop} {s : Shared} {t : Addr} {its : Array Value} {Q : Value → Shared → Prop} (ht : s.heap.IsTuple t its)
    (h : ∀ h', IsEnum h' (s.heap.objs.size + 1) s.heap.objs.size 0 .none → h'.IsTupleIter s.heap.objs.size t 0 → h'.IsTuple t its → (∀ b o, s.heap.get? b = some o → h'.get? b = some o) → Q (.ref (s.heap.objs.size + 1)) { s with heap := h' }) :
    wpAny (model prog w) A (call (.type "enumerate") [.ref t]) Q E s := by
  have n1 : (s.heap.push (tupIt t)).objs.size = s.heap.objs.size + 1 := Heap.size_push ..
  have k1 : ∀ b o, s.heap.get? b = some o → ((s.heap.push (tupIt t)).push (enmOf s.heap.objs.size)).get? b = some o := fun b o e => Heap.get?_push_of_some _ (Heap.get?_push_of_some _ e)
  have e1 : IsEnum ((s.heap.push (tupIt t)).push (enmOf s.heap.objs.size)) (s.heap.objs.size + 1) s.heap.objs.size 0 .none := by
    have z := Heap.get?_push_size (s.heap.push (tupIt t)) (o := enmOf s.heap.objs.size) rfl
    rw [n1] at z
    exact z
  have i1 : ((s.heap.push (tupIt t)).push (enmOf s.heap.objs.size)).get? s.heap.objs.size = some (tupIt t) := Heap.get?_push_of_some _ (Heap.get?_push_size _ rfl)
  refine callType_new F.called_enumerate (by decide) (F.typeCall_enumerate_1 _) (F.newCall_enumerate_1 _) (fun x => F.args_object_init_2 x _) F.entry_enumerate_new (enum_new_tup t its) ⟨ht, ?_⟩
  show _ ∧ _
  rw [n1]
  exact ⟨⟨_, e1, rfl⟩, h _ e1 ⟨_, i1, rfl, rfl⟩ (ht.at fun o e => k1 t o e) k1⟩
end
/-- the tuple at a, each item in a new pair with its place -/
def Iet (K : PySem.W.Frag) (a : Addr) : It where
  go := fun i H => ∃ (xs : List V) (x : V), SqT K H a xs ∧ xs[i]? = some x
  yld := fun i H v H' => ∃ T x, v = .ref T ∧ H T = none ∧ H' = upd H T (.tup [.int (i : Nat), x]) ∧ ∀ xs, SqT K H a xs → xs[i]? = some x
  stop := fun i H => ∃ xs : List V, SqT K H a xs ∧ xs.length = i
theorem turn_enumT {P : Program} {w : World} {K : PySem.W.Frag} {elts : List Expr} {kk : Nat} {tpos : Pos} (a e it : Addr) (ane : a ≠ it) (ane2 : a ≠ e) :
    Turn P w K (.Tuple elts kk tpos) (Iet K a) [e, it] e (fun i h => (∃ old, IsEnum h e it ((i : Nat) : Int) old) ∧ h.IsTupleIter it a i ∧ e ≠ it) where
  mem := List.mem_cons_self
  obj := fun i h st b hb => by
    obtain ⟨⟨old, he⟩, ⟨o, ho, _, hd⟩, _⟩ := st
    simp only [List.mem_cons, List.not_mem_nil, or_false] at hb
    rcases hb with rfl | rfl
    · exact ⟨_, he, fun v q => nomatch q⟩
    · exact ⟨o, ho, fun v q => by rw [hd] at q; cases q⟩
  keep := fun i h h' st k => by
    obtain ⟨⟨old, he⟩, hi, ne⟩ := st
    exact ⟨⟨old, k e List.mem_cons_self _ he⟩, hi.at fun o q => k it (List.mem_cons_of_mem _ List.mem_cons_self) o q, ne⟩
  item := by
    rintro X rfl rfl rfl hc i pins s σ H E I hf ⟨⟨old, he⟩, hit, ne⟩ ⟨xs, x, hq, hx⟩
    obtain ⟨its, rv, ⟨o, ho, oc, m, od⟩, hz⟩ := I.tuple hq
    have ht : s.heap.IsTuple a its.toArray := ⟨o, ho, oc, m, od⟩
    obtain ⟨u, hu, ru⟩ := rv.get hx
    have el : e < s.heap.objs.size := Heap.lt_size he
    have il : it < s.heap.objs.size := by obtain ⟨_, q, _⟩ := hit; exact Heap.lt_size q
    have li : i < its.toArray.size := by
      have := (List.getElem?_eq_some_iff.mp hu).1
      simpa using this
    have enot : e ∉ [it, a] := by
      simp only [List.mem_cons, List.not_mem_nil, or_false, not_or]
      exact ⟨ne, fun q => ane2 q.symm⟩
    refine wpAny_pyNext_enum_itemD (Draws.tuple (prog := X.prog) (w := X.w) (A := X.A.in1) (I.ok.hd hc) it a ane its.toArray) he ⟨hit, ht⟩ li ne enot fun u' h' tk hu' out st' hT hsz hk => ?_
    have eu : u' = u := by
      have q1 : its[i]? = some u' := by simpa using hu'
      rw [hu] at q1
      exact (Option.some.inj q1).symm
    subst eu
    refine ⟨_, rfl, wpAny_letOwnedTupleGo_enum (s := { s with heap := h', toks := tk + 1 }) out fun h'' he' sb => ?_⟩
    have hT2 : h''.get? s.heap.objs.size = some { cls := .type "tuple", data := .seq #[.int i tk, u'] } := (sb.2 _ (Nat.ne_of_gt el)).trans hT
    have made : ObjOk X.prog X.w (upd H s.heap.objs.size (.tup [.int (i : Nat), x])) h'' s.heap.objs.size (.tup [.int (i : Nat), x]) :=
      ⟨(by decide : 2 ≤ sizeLine), [.int i tk, u'], .cons ⟨_, rfl⟩ (.cons ru .nil), ⟨_, hT2, rfl, _, rfl⟩⟩
    have J : Inv X pins σ (upd H s.heap.objs.size (.tup [.int (i : Nat), x])) { s with heap := h'', toks := tk + 1 } :=
      I.turnedNew (ch := [e, it]) (fun b ob nb q => (sb.2 b fun z => nb (by rw [z]; exact List.mem_cons_self)).trans (hk b ob (fun z => nb (by rw [z]; exact List.mem_cons_self)) (fun z => nb (by rw [z]; exact List.mem_cons_of_mem _ List.mem_cons_self)) q)) hf (Nat.le_refl _) made
    refine ⟨.ref s.heap.objs.size, _, J, rfl, ⟨_, x, rfl, I.hok.fresh (Nat.le_refl _), rfl, fun ys hy => by rw [I.tuple_inj hy hq]; exact hx⟩, ⟨⟨u', ?_⟩, st'.1.at fun o q => (sb.2 it (Ne.symm ne)).trans q, ne⟩, fun b hb => ?_⟩
    · rw [show ((i + 1 : Nat) : Int) = (i : Int) + 1 by omega]
      exact he'
    · have lb : b < s.heap.objs.size := by
        simp only [List.mem_cons, List.not_mem_nil, or_false] at hb
        rcases hb with rfl | rfl
        · exact el
        · exact il
      rw [upd_ne (Nat.ne_of_lt lb)]
      exact (hf b hb).1
  done := by
    rintro X rfl rfl rfl hc i pins s σ H E I hf ⟨⟨old, he⟩, hit, ne⟩ ⟨xs, hq, hx⟩
    obtain ⟨its, rv, ⟨o, ho, oc, m, od⟩, hz⟩ := I.tuple hq
    obtain ⟨f0, f1, f2, f3, f4, f5⟩ := hf it (List.mem_cons_of_mem _ List.mem_cons_self)
    have n : its.toArray.size = i := by rw [List.size_toArray, ← rv.length]; exact hx
    have D := Draws.tuple (prog := X.prog) (w := X.w) (A := X.A.in1) (I.ok.hd hc) it a ane its.toArray
    rw [n] at D
    exact wpAny_pyNext_enum_endD D he ⟨hit, o, ho, oc, m, od⟩ fun h' eb => ⟨rfl, I.turned (t' := s.toks) (fun b o hb q => eb b o hb q) f0 f1 f3 f4 f5⟩
  self := fun A i s Q E st h => by
    obtain ⟨⟨_, he⟩, _⟩ := st
    exact wpAny_pyIter_enum he h
def iEnmT (K : PySem.W.Frag) (ta : TA) : TI := fun σ H R => ta σ H fun vs H1 => ∃ a xs, vs = [.ref a] ∧ SqT K H1 a xs ∧ R (Iet K a) H1
theorem pi_enumT {X : Cx} {e : Expr} {ta : TA} {p pos tpos : Pos} {elts : List Expr} {kk : Nat} (hg : Gl X "enumerate") (hm : X.mg "enumerate" = none) (ha : PA X [e] ta) (hs : starEach [e] X.env = [(false, eval e X.env)] := by rfl) :
    PI X (.Tuple elts kk tpos) (.Call (.Name "enumerate" p) [e] [] pos) (iEnmT X.K ta) := ⟨fun pins s σ H R I h =>
  Call_ (ld_blt I hg hm boot_enumerate (PyProof.Rows.callWith_type1 (thn (ha.run pos pins s σ H _ I h) fun us s1 z => by
    obtain ⟨vs, H1, J, rv, a, xs, rfl, hq, q⟩ := z
    obtain ⟨u, rfl, ru⟩ := vals1 rv
    cases ru
    obtain ⟨its, rx, ⟨o, ho, oc, m, od⟩, hz⟩ := J.tuple hq
    refine call_enum_tup (its := its.toArray) ⟨o, ho, oc, m, od⟩ fun h' he hit _ keep => wpAny_pyIter_enum he ?_
    have al : a < s1.heap.objs.size := Heap.lt_size ho
    refine ⟨s1.heap.objs.size + 1, [s1.heap.objs.size + 1, s1.heap.objs.size], _, _, H1, rfl, J.kept (t' := s1.toks) keep, turn_enumT a (s1.heap.objs.size + 1) s1.heap.objs.size (Nat.ne_of_lt al) (Nat.ne_of_lt (Nat.lt_succ_of_lt al)), ⟨⟨.none, he⟩, hit, Nat.succ_ne_self _⟩, fun b hb => ?_, q⟩
    have hle : s1.heap.objs.size ≤ b := by
      simp only [List.mem_cons, List.not_mem_nil, or_false] at hb
      rcases hb with rfl | rfl
      · exact Nat.le_succ _
      · exact Nat.le_refl _
    exact J.fpOk hle (J.hok.fresh hle)) hs rfl))⟩

/-- the slots beside is stay -/
def Agr (is : List Nat) (σ σ' : L2.St) : Prop := ∀ j, j ∉ is → σ'[j]? = σ[j]?
theorem Agr.refl {is : List Nat} (σ : L2.St) : Agr is σ σ := fun _ _ => rfl
theorem Agr.trans {is : List Nat} {σ1 σ2 σ3 : L2.St} (h : Agr is σ1 σ2) (k : Agr is σ2 σ3) : Agr is σ1 σ3 := fun j hj => (k j hj).trans (h j hj)
theorem Agr.mono {is js : List Nat} {σ1 σ2 : L2.St} (h : Agr is σ1 σ2) (k : ∀ j ∈ is, j ∈ js) : Agr js σ1 σ2 := fun j hj => h j fun z => hj (k j z)
theorem Agr.set {i : Nat} {σ : L2.St} (v : Option V) : Agr [i] σ (σ.set i v) := fun j hj => by
  rw [List.getElem?_set_ne fun e => hj (by rw [e]; exact List.mem_singleton.mpr rfl)]
def tTg (X : Cx) (t : Tg) : TG := fun v σ H Q => ∃ F L M d E E', Ok F (M ++ L) H ∧ OwnE X.K F E σ L ∧ Own X.K F d v M ∧ t.bind d E = some E' ∧ ∀ σ' L', OwnE X.K F E' σ' L' → Prt L' (M ++ L) → Agr t.asg σ σ' → Q σ' H
def GTg (Γ : Ctx) (e : Expr) (t : Tg) : Prop := ∀ X W, CtxOk Γ X W → PG X e (tTg X t)
def tTgs (X : Cx) (is : List Nat) : TGs := fun vs σ H Q => ∃ F L ds E E', Ok F L H ∧ OwnE X.K F E σ L ∧ OwnL X.K F ds vs [] ∧ bindAll is ds E = some E' ∧ ∀ σ' L', OwnE X.K F E' σ' L' → Prt L' L → Agr is σ σ' → Q σ' H
def GTgs (Γ : Ctx) (e : List Expr) (is : List Nat) : Prop := ∀ X W, CtxOk Γ X W → PGs X e (tTgs X is)
theorem PG.imp {X : Cx} {e : Expr} {t t' : TG} (h : PG X e t) (i : ∀ v σ H Q, t' v σ H Q → t v σ H Q) : PG X e t' := ⟨fun pins s σ H v u Q I r q => h.run pins s σ H v u Q I r (i v σ H Q q)⟩
theorem PGs.imp {X : Cx} {e : List Expr} {t t' : TGs} (h : PGs X e t) (i : ∀ v σ H Q, t' v σ H Q → t v σ H Q) : PGs X e t' := ⟨fun pins s σ H v u Q I r q => h.run pins s σ H v u Q I r (i v σ H Q q)⟩
theorem PI.imp {X : Cx} {tg e : Expr} {t t' : TI} (h : PI X tg e t) (i : ∀ σ H R, t' σ H R → t σ H R) : PI X tg e t' := ⟨fun pins s σ H R I q => h.run pins s σ H R I (i σ H R q)⟩
theorem PI.or {X : Cx} {tg e : Expr} {t t' : TI} (h : PI X tg e t) (h' : PI X tg e t') : PI X tg e (fun σ H R => t σ H R ∨ t' σ H R) := ⟨fun pins s σ H R I q => q.elim (h.run pins s σ H R I) (h'.run pins s σ H R I)⟩
section
variable {Γ : Ctx} {pos p p2 apos : Pos}
theorem gtg_nm {i : Nat} {x : Str} (hN : Γ.N[i]? = some x := by rfl) (hx : Loc Γ.sc x := by first | exact Or.inl rfl | exact Or.inr rfl) (hf : Γ.body = true ∨ Γ.sc.names.lookup x = some .local := by first | exact Or.inl rfl | exact Or.inr rfl) : GTg Γ (.Name x pos) (.nm i) := fun X W c =>
  PG.imp (pg_name (i := i) c.nd (by rw [c.n]; exact hN) (by rw [c.sc]; exact hx) (hf.imp (fun h => (c.bd h).2.2.2 x) fun h => by rw [c.sc]; exact h)) fun v σ H Q h => by
    obtain ⟨F, L, M, d, E, E', ok, o1, o2, e, q⟩ := h
    have e : (if i < E.length then some (E.set i (some d)) else none) = some E' := e
    split at e
    · rename_i hi
      cases e
      obtain ⟨L', h1, h2⟩ := o1.storeS hi o2
      exact q _ L' h1 h2 (Agr.set _)
    · cases e
theorem gtgs_nil : GTgs Γ [] [] := fun X W c => PGs.imp pgs_nil fun v σ H Q h => by
  obtain ⟨F, L, ds, E, E', ok, o1, o2, e, q⟩ := h
  cases ds with
  | nil =>
    cases e
    exact ⟨o2.1, q σ L o1 (Prt.refl _) (Agr.refl _)⟩
  | cons d ds => cases e
theorem gtgs_cons {i : Nat} {is : List Nat} {x : Str} {es : List Expr} (hr : GTgs Γ es is) (hN : Γ.N[i]? = some x := by rfl) (hx : Loc Γ.sc x := by first | exact Or.inl rfl | exact Or.inr rfl) (hf : Γ.body = true ∨ Γ.sc.names.lookup x = some .local := by first | exact Or.inl rfl | exact Or.inr rfl) (hs : ∀ env : PySem.Env, (assignEach (.Name x pos :: es) env).map (·.2) = assign (.Name x pos) env :: (assignEach es env).map (·.2) := by intro _; rfl) : GTgs Γ (.Name x pos :: es) (i :: is) := fun X W c =>
  PGs.imp (pgs_cons (pg_name (i := i) c.nd (by rw [c.n]; exact hN) (by rw [c.sc]; exact hx) (hf.imp (fun h => (c.bd h).2.2.2 x) fun h => by rw [c.sc]; exact h)) (hr X W c) (hs _)) fun v σ H Q h => by
    obtain ⟨F, L, ds, E, E', ok, o1, o2, e, q⟩ := h
    cases ds with
    | nil => cases e
    | cons d ds =>
      obtain ⟨v1, r, L1, L2, rfl, e2, o3, o4⟩ := o2
      obtain ⟨rfl, rfl⟩ := List.append_eq_nil_iff.mp e2.symm
      have e : (if i < E.length then bindAll is ds (E.set i (some d)) else none) = some E' := e
      split at e
      · rename_i hi
        obtain ⟨L', h1, h2⟩ := o1.storeS hi o3
        refine ⟨v1, r, rfl, F, L', ds, _, E', ok.prt h2, h1, o4, e, fun σ' M h3 h4 h5 => q σ' M h3 (h4.trans h2) ?_⟩
        exact ((Agr.set _).mono fun j hj => by rw [List.mem_singleton.mp hj]; exact List.mem_cons_self).trans (h5.mono fun j hj => List.mem_cons_of_mem _ hj)
      · cases e
theorem gtg_tup {es : List Expr} {is : List Nat} {k : Nat} (hc : Γ.calm = true) (h : GTgs Γ es is) (hn : ∀ env : PySem.Env, (assignEach es env).length = is.length := by intro _; rfl) (hst : ∀ env : PySem.Env, (assignEach es env).findIdx? (·.1) = none := by intro _; rfl) : GTg Γ (.Tuple es k pos) (.tup is) := fun X W c =>
  PG.imp (pg_tup (c.calm hc) (h X W c) (hn _) (hst _)) fun v σ H Q z => by
    obtain ⟨F, L, M, d, E, E', ok, o1, o2, e, q⟩ := z
    cases d with
    | tup ds =>
      obtain ⟨rfl, a, vs, rfl, h3, h4⟩ := o2
      have e : bindAll is ds E = some E' := e
      have hl : ∀ {is : List Nat} {ds : List D} {E : En}, bindAll is ds E = some E' → is.length = ds.length := fun {is} => by
        induction is with
        | nil => intro ds E e; cases ds with
          | nil => rfl
          | cons d ds => cases e
        | cons i is ih => intro ds E e; cases ds with
          | nil => cases e
          | cons d ds =>
            have e : (if i < E.length then bindAll is ds (E.set i (some d)) else none) = some E' := e
            split at e
            · rw [List.length_cons, List.length_cons, ih e]
            · cases e
      refine ⟨a, vs, rfl, SqT_mono ok.fH h3, by rw [← h4.length]; exact (hl e).symm, F, L, ds, E, E', ok, o1, h4, e, fun σ' L' h1 h2 h3 => q σ' L' h1 h2 h3⟩
    | _ => cases e

/-! ### what is walked -/
/-- J walks us, as long as F and the cells Ls stand -/
structure Wk (J : It) (F : Hp) (Ls : Fp) (us : List V) : Prop where
  go : ∀ i H, Same F H → InH Ls H → i < us.length → J.go i H
  stop : ∀ i H, Same F H → InH Ls H → us.length ≤ i → J.stop i H
  yld : ∀ i H x H', Same F H → InH Ls H → i < us.length → J.yld i H x H' → H' = H ∧ us[i]? = some x
theorem Wk.mono {J : It} {F F' : Hp} {Ls : Fp} {us : List V} (w : Wk J F Ls us) (e : Same F F') : Wk J F' Ls us :=
  ⟨fun i H h => w.go i H (e.trans h), fun i H h => w.stop i H (e.trans h), fun i H x H' h => w.yld i H x H' (e.trans h)⟩
theorem wk_list {K : PySem.W.Frag} {F : Hp} {Ls : Fp} {a : Addr} {us : List V} (h : ∀ H, Same F H → InH Ls H → SqL K H a us) : Wk (Itl K a) F Ls us where
  go := fun i H s c hi => ⟨us, us[i], h H s c, List.getElem?_eq_getElem hi⟩
  stop := fun i H s c hi => ⟨us, h H s c, hi⟩
  yld := fun i H x H' s c _ y => ⟨y.1, y.2 us (h H s c)⟩
theorem wk_tup {K : PySem.W.Frag} {F : Hp} {Ls : Fp} {a : Addr} {us : List V} (h : ∀ H, Same F H → InH Ls H → SqT K H a us) : Wk (Itt K a) F Ls us where
  go := fun i H s c hi => ⟨us, us[i], h H s c, List.getElem?_eq_getElem hi⟩
  stop := fun i H s c hi => ⟨us, h H s c, hi⟩
  yld := fun i H x H' s c _ y => ⟨y.1, y.2 us (h H s c)⟩
/-- J walks what ds stands for, as long as F and the cells Ls stand; a turn may make something new -/
structure WkD (K : PySem.W.Frag) (J : It) (F : Hp) (Ls : Fp) (ds : List D) : Prop where
  go : ∀ i H, Same F H → InH Ls H → i < ds.length → J.go i H
  stop : ∀ i H, Same F H → InH Ls H → ds.length = i → J.stop i H
  yld : ∀ i F1 M H x H', Same F F1 → Ok F1 M H → InH Ls H → i < ds.length → J.yld i H x H' → ∃ F2 d, Step F1 M H F2 M H' ∧ ds[i]? = some d ∧ Own K F2 d x []
theorem WkD.mono {K : PySem.W.Frag} {J : It} {F F' : Hp} {Ls : Fp} {ds : List D} (w : WkD K J F Ls ds) (e : Same F F') : WkD K J F' Ls ds :=
  ⟨fun i H h => w.go i H (e.trans h), fun i H h => w.stop i H (e.trans h), fun i F1 M H x H' h => w.yld i F1 M H x H' (e.trans h)⟩
theorem Wk.toD {K : PySem.W.Frag} {J : It} {F : Hp} {Ls : Fp} {ds : List D} {us : List V} (o : OwnL K F ds us []) (w : Wk J F Ls us) : WkD K J F Ls ds where
  go := fun i H s c hi => w.go i H s c (by rw [← o.length]; exact hi)
  stop := fun i H s c hi => w.stop i H s c (by rw [← o.length]; omega)
  yld := fun i F1 M H x H' s ok c hi y => by
    obtain ⟨rfl, hx⟩ := w.yld i H x H' (s.trans ok.fH) c (by rw [← o.length]; exact hi) y
    have hd : ds[i]? = some ds[i] := List.getElem?_eq_getElem hi
    obtain ⟨v, hv, ov⟩ := (o.mono s).at_ hd
    rw [hx] at hv
    cases hv
    exact ⟨F1, _, Step.refl ok, hd, ov⟩
def rngV (lo hi : Int) : List V := (List.range (hi - lo).toNat).map fun k => V.int (lo + (k : Nat))
theorem rng_own {K : PySem.W.Frag} {F : Hp} : ∀ (l : List Nat) (lo : Int), OwnL K F (l.map fun k => D.int (lo + (k : Nat))) (l.map fun k => V.int (lo + (k : Nat))) []
  | [], _ => ⟨rfl, rfl⟩
  | k :: l, lo => ⟨_, _, [], [], rfl, rfl, int_own, rng_own l lo⟩
theorem rngV_len {lo hi : Int} : (rngV lo hi).length = (hi - lo).toNat := by unfold rngV; rw [List.length_map, List.length_range]
theorem wk_rng {F : Hp} {lo hi : Int} : Wk (Itr lo (hi - lo).toNat) F [] (rngV lo hi) where
  go := fun i H s c hi => by
    rw [rngV_len] at hi
    exact hi
  stop := fun i H s c hi => by
    rw [rngV_len] at hi
    exact hi
  yld := fun i H x H' s c hi y => by
    rw [rngV_len] at hi
    obtain ⟨y1, rfl⟩ := y
    refine ⟨y1, ?_⟩
    unfold rngV
    rw [List.getElem?_map, List.getElem?_range hi] <;> rfl
/-- a list or a tuple that stays: its items -/
theorem src_ok {K : PySem.W.Frag} {F : Hp} {d : D} {v : V} {Ls : Fp} {ds : List D} (o : Own K F d v Ls) (e : d.items = some ds) (hf : (d.fz || fzL ds) = true) : ∃ a us, v = .ref a ∧ OwnL K F ds us [] ∧
    ((d.kd = .lst ∧ ∀ H, Same F H → InH Ls H → SqL K H a us) ∨ (d.kd = .tup ∧ ∀ H, Same F H → InH Ls H → SqT K H a us)) := by
  cases d with
  | tup xs =>
    cases e
    obtain ⟨_, a, us, rfl, h3, h4⟩ := o
    exact ⟨a, us, rfl, h4, .inr ⟨rfl, fun H s _ => SqT_mono s h3⟩⟩
  | scr xs =>
    cases e
    obtain ⟨_, a, us, rfl, h3, h4⟩ := o
    exact ⟨a, us, rfl, h4, .inl ⟨rfl, fun H s _ => s.seq h3⟩⟩
  | lst b xs =>
    cases e
    cases b with
    | false =>
      obtain ⟨_, a, us, rfl, h3, h4⟩ := o
      exact ⟨a, us, rfl, h4, .inl ⟨rfl, fun H s _ => SqL.of (s _ _ h3)⟩⟩
    | true =>
      obtain ⟨a, us, M, rfl, rfl, h4⟩ := o
      have n := OwnL.fz_nil (show fzL ds = true from hf) h4
      subst n
      exact ⟨a, us, rfl, h4, .inl ⟨rfl, fun H _ i => SqL.of (i (a, .lst us) List.mem_cons_self)⟩⟩
  | _ => cases e
abbrev roS (X : Cx) : Hp → List D → (It × List V) → Fp → Prop := fun F ds p Ls => WkD X.K p.1 F Ls ds
def tSrc (Γ : Ctx) (X : Cx) (W : WX) (src : Src) : TI := fun σ H Z => ∃ F L E cur, Rel Γ X cur E F L σ H ∧ Bs Γ X W σ F L H (roS X) (evSrc Γ.call cur src E) fun p H' => Z p.1 H'
def GS (Γ : Ctx) (tg e : Expr) (src : Src) : Prop := ∀ X W, CtxOk Γ X W → PI X tg e (tSrc Γ X W src)
/-- a plain source -/
theorem gs_sx {tg e : Expr} {s : Sx} (h : GX Γ e s) : GS Γ tg e (.sx s) := fun X W c => PI.imp (PI.or (pi_list (h X W c)) (pi_tup (h X W c))) fun σ H Z z => by
  obtain ⟨F, L, E, cur, rl, q⟩ := z
  have q : Bs Γ X W σ F L H (roS X) (match sv cur E s with
    | some d => if d.fz = true then (match d.items with
      | some ds => R.ok ds E
      | none => R.bad) else R.bad
    | none => R.bad) fun p H' => Z p.1 H' := q
  split at q
  · rename_i d e1
    split at q
    · rename_i hf
      split at q
      · rename_i ds e2
        have main : ∀ v H' F' L', Step F L H F' L H' → (∀ p ∈ L', p ∈ L) → Own X.K F' d v L' → ∃ a us, v = .ref a ∧ OwnL X.K F' ds us [] ∧ ((d.kd = .lst ∧ ∀ H, Same F' H → InH [] H → SqL X.K H a us) ∨ (d.kd = .tup ∧ ∀ H, Same F' H → InH [] H → SqT X.K H a us)) := fun v H' F' L' st hl o => by
          have n := Own.fz_nil hf o
          subst n
          exact src_ok o e2 (by rw [hf] <;> rfl)
        cases hk : d.kd with
        | lst =>
          refine .inl ⟨F, L, E, cur, _, rl, e1, fun v H' F' L' st hl o => ?_⟩
          obtain ⟨a, us, rfl, o2, ⟨_, k⟩ | ⟨k, _⟩⟩ := main v H' F' L' st hl o
          · exact ⟨a, rfl, ⟨us, k H' st.ok.fH fun p hp => by cases hp⟩, q (Itl X.K a, us) H' F' L [] st (rl.own.mono st.ff) (Wk.toD o2 (wk_list k))⟩
          · rw [hk] at k; cases k
        | tup =>
          refine .inr ⟨F, L, E, cur, _, rl, e1, fun v H' F' L' st hl o => ?_⟩
          obtain ⟨a, us, rfl, o2, ⟨k, _⟩ | ⟨_, k⟩⟩ := main v H' F' L' st hl o
          · rw [hk] at k; cases k
          · exact ⟨a, rfl, ⟨us, k H' st.ok.fH fun p hp => by cases hp⟩, q (Itt X.K a, us) H' F' L [] st (rl.own.mono st.ff) (Wk.toD o2 (wk_tup k))⟩
        | _ => cases d <;> first | (cases hk; done) | (cases e2; done)
      · exact q.elim
    · exact q.elim
  · exact q.elim
theorem evSrc_m {call : Nat → List D → Rr} {cur : Cur} {m : M} {E : En} : evSrc call cur (.m m) E = (ev call cur m E).bind fun d E1 => match d.items with
      | some ds => if (d.fz || fzL ds) = true then .ok ds E1 else .bad
      | none => .bad := by
  unfold evSrc R.bind
  cases ev call cur m E <;> rfl
theorem gs_m {tg e : Expr} {m : M} (h : GE Γ e m) : GS Γ tg e (.m m) := fun X W c => PI.imp (PI.or (pi_list (h X W c)) (pi_tup (h X W c))) fun σ H Z z => by
  obtain ⟨F, L, E, cur, rl, q⟩ := z
  rw [evSrc_m] at q
  have fin : ∀ (d : D) (E1 : En), (ev Γ.call cur m E = .ok d E1) → Bs Γ X W σ F L H (roS X) (match d.items with
      | some ds => if (d.fz || fzL ds) = true then R.ok ds E1 else R.bad
      | none => R.bad) (fun p H' => Z p.1 H') → iList X.K (tE Γ X W m) σ H Z ∨ iTup X.K (tE Γ X W m) σ H Z := fun d E1 e1 q => by
    split at q
    · rename_i ds e2
      split at q
      · rename_i hf
        cases hk : d.kd with
        | lst =>
          refine .inl ⟨F, L, E, cur, rl, ?_⟩
          rw [e1]
          intro v H1 F1 L1 L2 s1 o1 o2
          obtain ⟨a, us, rfl, o3, ⟨_, k⟩ | ⟨k, _⟩⟩ := src_ok o2 e2 hf
          · exact ⟨a, rfl, ⟨us, k H1 s1.ok.fH s1.ok.left.inH⟩, q (Itl X.K a, us) H1 F1 L1 L2 s1 o1 (Wk.toD o3 (wk_list k))⟩
          · rw [hk] at k; cases k
        | tup =>
          refine .inr ⟨F, L, E, cur, rl, ?_⟩
          rw [e1]
          intro v H1 F1 L1 L2 s1 o1 o2
          obtain ⟨a, us, rfl, o3, ⟨k, _⟩ | ⟨_, k⟩⟩ := src_ok o2 e2 hf
          · rw [hk] at k; cases k
          · exact ⟨a, rfl, ⟨us, k H1 s1.ok.fH s1.ok.left.inH⟩, q (Itt X.K a, us) H1 F1 L1 L2 s1 o1 (Wk.toD o3 (wk_tup k))⟩
        | _ => cases d <;> first | (cases hk; done) | (cases e2; done)
      · exact q.elim
    · exact q.elim
  cases e1 : ev Γ.call cur m E with
  | ok d E1 =>
    rw [e1] at q
    exact fin d E1 e1 q
  | exc k d E1 =>
    rw [e1] at q
    refine .inl ⟨F, L, E, cur, rl, ?_⟩
    rw [e1]
    exact q
  | bad =>
    rw [e1] at q
    exact q.elim
theorem small62_of {i : Int} (h : small62 i = true) : -(2 ^ 62) ≤ i ∧ i < 2 ^ 62 := by
  unfold small62 at h
  exact of_decide_eq_true h
theorem gs_rng1 {tg a : Expr} {s : Sx} (h : GX Γ a s) (hg : Glb Γ "range" := by rfl) (hm : Fre Γ "range" := by rfl) (ns : NS a := by intro _ _; rfl) : GS Γ tg (.Call (.Name "range" p) [a] [] pos) (.rng1 s) := fun X W c =>
  PI.imp (pi_range1 (gl_of c hg) (bltn_none c hm) (gxa_cons h gxa_nil ns X W c) (ns [] _)) fun σ H Z z => by
    obtain ⟨F, L, E, cur, rl, q⟩ := z
    have q : Bs Γ X W σ F L H (roS X) (match sv cur E s with
      | some (.int n) => if small62 n = true then R.ok (rngD 0 n) E else R.bad
      | _ => R.bad) fun p H' => Z p.1 H' := q
    split at q
    · rename_i n e1
      split at q
      · rename_i hs
        have hs := small62_of hs
        refine ⟨F, L, E, cur, _, rl, svs_one e1, fun vs H1 F1 L1 s1 p1 o1 => ?_⟩
        obtain ⟨v, rfl, o2⟩ := ownL_one o1
        refine ⟨n, by rw [own_int o2], hs.1, hs.2, ?_⟩
        have qq := q (Itr 0 (n - 0).toNat, rngV 0 n) H1 F1 L [] s1 (rl.own.mono s1.ff) (Wk.toD (rng_own _ _) wk_rng)
        have en : (n - 0 : Int) = n := by omega
        rw [en] at qq
        exact qq
      · exact q.elim
    · exact q.elim
/-- range(e), e made -/
theorem gs_rngM {tg a : Expr} {m : M} (h : GE Γ a m) (hg : Glb Γ "range" := by rfl) (hm : Fre Γ "range" := by rfl) (ns : NS a := by intro _ _; rfl) : GS Γ tg (.Call (.Name "range" p) [a] [] pos) (.rngM m) := fun X W c =>
  PI.imp (pi_range1 (gl_of c hg) (bltn_none c hm) (ges_cons h ges_nil ns X W c) (ns [] _)) fun σ H Z z => by
    obtain ⟨F, L, E, cur, rl, q⟩ := z
    have q : Bs Γ X W σ F L H (roS X) (match ev Γ.call cur m E with
      | .ok (.int n) E1 => if small62 n = true then R.ok (rngD 0 n) E1 else R.bad
      | .exc c d E1 => R.exc c d E1
      | _ => R.bad) fun p H' => Z p.1 H' := q
    refine ⟨F, L, E, cur, rl, ?_⟩
    rw [evs_cons]
    cases e1 : ev Γ.call cur m E with
    | ok d E1 =>
      rw [e1] at q
      intro vs H1 F1 L1 L2 s1 o1 o2
      obtain ⟨v, rfl, o3⟩ := ownL_one o2
      cases d with
      | int n =>
        have q : Bs Γ X W σ F L H (roS X) (if small62 n = true then R.ok (rngD 0 n) E1 else R.bad) fun p H' => Z p.1 H' := q
        split at q
        · rename_i hs
          have hs := small62_of hs
          obtain ⟨rfl, rfl⟩ := o3
          refine ⟨n, rfl, hs.1, hs.2, ?_⟩
          have qq := q (Itr 0 (n - 0).toNat, rngV 0 n) H1 F1 L1 [] s1 o1 (Wk.toD (rng_own _ _) wk_rng)
          have en : (n - 0 : Int) = n := by omega
          rw [en] at qq
          exact qq
        · exact q.elim
      | _ => exact q.elim
    | exc k d E1 =>
      rw [e1] at q
      exact q
    | bad =>
      rw [e1] at q
      exact q.elim
theorem svs_two {cur : Cur} {E : En} {a b : Sx} {d e : D} (h : sv cur E a = some d) (k : sv cur E b = some e) : svs cur E (.cons a (.cons b .nil)) = some [d, e] := by
  show (match sv cur E a, svs cur E (.cons b .nil) with | some d, some ds => some (d :: ds) | _, _ => none) = _
  rw [h, svs_one k] <;> rfl
theorem gs_rng2 {tg a b : Expr} {s t : Sx} (h : GX Γ a s) (k : GX Γ b t) (hg : Glb Γ "range" := by rfl) (hm : Fre Γ "range" := by rfl) (ns : NS a := by intro _ _; rfl) (ns2 : NS b := by intro _ _; rfl) : GS Γ tg (.Call (.Name "range" p) [a, b] [] pos) (.rng2 s t) := fun X W c =>
  PI.imp (pi_range2 (gl_of c hg) (bltn_none c hm) (gxa_cons h (gxa_cons k gxa_nil ns2) ns X W c) (by rw [ns, ns2] <;> rfl) (ns2 [] _)) fun σ H Z z => by
    obtain ⟨F, L, E, cur, rl, q⟩ := z
    have q : Bs Γ X W σ F L H (roS X) (match sv cur E s, sv cur E t with
      | some (.int i), some (.int j) => if small62 i = true ∧ small62 j = true then R.ok (rngD i j) E else R.bad
      | _, _ => R.bad) fun p H' => Z p.1 H' := q
    split at q
    · rename_i i j e1 e2
      split at q
      · rename_i hs
        have h1 := small62_of hs.1
        have h2 := small62_of hs.2
        refine ⟨F, L, E, cur, _, rl, svs_two e1 e2, fun vs H1 F1 L1 s1 p1 o1 => ?_⟩
        obtain ⟨v, u, M1, M2, rfl, _, o2, o3⟩ := ownL_two o1
        refine ⟨i, j, by rw [own_int o2, own_int o3], ⟨h1.1, h1.2, h2.1, h2.2⟩, ?_⟩
        exact q (Itr i (j - i).toNat, rngV i j) H1 F1 L [] s1 (rl.own.mono s1.ff) (Wk.toD (rng_own _ _) wk_rng)
      · exact q.elim
    · exact q.elim
/-! ### enumerate -/
theorem enumD_at : ∀ (ds : List D) (k i : Nat), (enumD k ds)[i]? = ds[i]?.map fun d => D.tup [.int ((k + i : Nat) : Int), d]
  | [], _, _ => rfl
  | d :: ds, k, 0 => rfl
  | d :: ds, k, i + 1 => by
    show (enumD (k + 1) ds)[i]? = ds[i]?.map _
    rw [enumD_at ds (k + 1) i, show k + 1 + i = k + (i + 1) by omega]
theorem enumD_len : ∀ (ds : List D) (k : Nat), (enumD k ds).length = ds.length
  | [], _ => rfl
  | d :: ds, k => by
    show (enumD (k + 1) ds).length + 1 = ds.length + 1
    rw [enumD_len ds (k + 1)]
theorem enum_step {K : PySem.W.Frag} {F F1 : Hp} {ds : List D} {us : List V} {M : Fp} {H : Hp} {T i : Nat} {x : V} (o : OwnL K F ds us []) (s : Same F F1) (ok : Ok F1 M H) (hi : i < ds.length) (hT : H T = none) (hx : us[i]? = some x) : ∃ F2 d, Step F1 M H F2 M (upd H T (.tup [.int (i : Nat), x])) ∧ (enumD 0 ds)[i]? = some d ∧ Own K F2 d (.ref T) [] := by
  have hd : ds[i]? = some ds[i] := List.getElem?_eq_getElem hi
  obtain ⟨v, hv, ov⟩ := (o.mono s).at_ hd
  rw [hx] at hv
  cases hv
  have st := Step.newFrozen ok (.tup [.int (i : Nat), x]) hT
  refine ⟨_, .tup [.int ((0 + i : Nat) : Int), ds[i]], st, ?_, ?_⟩
  · rw [enumD_at, hd] <;> rfl
  · refine ⟨rfl, T, [.int ((0 + i : Nat) : Int), x], rfl, .inl (.inl ?_), ?_⟩
    · rw [Nat.zero_add]
      exact upd_same
    · exact ⟨_, _, [], [], rfl, rfl, int_own, _, _, [], [], rfl, rfl, ov.mono st.ff, rfl, rfl⟩
theorem wk_enumL {K : PySem.W.Frag} {F : Hp} {Ls : Fp} {a : Addr} {ds : List D} {us : List V} (o : OwnL K F ds us []) (h : ∀ H, Same F H → InH Ls H → SqL K H a us) : WkD K (Ite K a) F Ls (enumD 0 ds) where
  go := fun i H s c hi => by
    rw [enumD_len, o.length] at hi
    exact ⟨us, us[i], h H s c, List.getElem?_eq_getElem hi⟩
  stop := fun i H s c hi => by
    rw [enumD_len, o.length] at hi
    exact ⟨us, h H s c, by omega⟩
  yld := fun i F1 M H x H' s ok c hi y => by
    obtain ⟨T, z, rfl, hT, rfl, hz⟩ := y
    rw [enumD_len] at hi
    exact enum_step o s ok hi hT (hz us (h H (s.trans ok.fH) c))
theorem wk_enumT {K : PySem.W.Frag} {F : Hp} {Ls : Fp} {a : Addr} {ds : List D} {us : List V} (o : OwnL K F ds us []) (h : ∀ H, Same F H → InH Ls H → SqT K H a us) : WkD K (Iet K a) F Ls (enumD 0 ds) where
  go := fun i H s c hi => by
    rw [enumD_len, o.length] at hi
    exact ⟨us, us[i], h H s c, List.getElem?_eq_getElem hi⟩
  stop := fun i H s c hi => by
    rw [enumD_len, o.length] at hi
    exact ⟨us, h H s c, by omega⟩
  yld := fun i F1 M H x H' s ok c hi y => by
    obtain ⟨T, z, rfl, hT, rfl, hz⟩ := y
    rw [enumD_len] at hi
    exact enum_step o s ok hi hT (hz us (h H (s.trans ok.fH) c))
theorem gs_enum {e : Expr} {s : Sx} {tpos : Pos} {elts : List Expr} {kk : Nat} (h : GX Γ e s) (hg : Glb Γ "enumerate" := by rfl) (hm : Fre Γ "enumerate" := by rfl) (ns : NS e := by intro _ _; rfl) : GS Γ (.Tuple elts kk tpos) (.Call (.Name "enumerate" p) [e] [] pos) (.enum s) := fun X W c =>
  PI.imp (PI.or (pi_enum (gl_of c hg) (bltn_none c hm) (gxa_cons h gxa_nil ns X W c) (ns [] _)) (pi_enumT (gl_of c hg) (bltn_none c hm) (gxa_cons h gxa_nil ns X W c) (ns [] _))) fun σ H Z z => by
  obtain ⟨F, L, E, cur, rl, q⟩ := z
  have q : Bs Γ X W σ F L H (roS X) (match sv cur E s with
    | some d => if d.fz = true then (match d.items with
      | some ds => R.ok (enumD 0 ds) E
      | none => R.bad) else R.bad
    | none => R.bad) fun p H' => Z p.1 H' := q
  split at q
  · rename_i d e1
    split at q
    · rename_i hf
      split at q
      · rename_i ds e2
        have main : ∀ v H' F' L', Step F L H F' L H' → (∀ p ∈ L', p ∈ L) → Own X.K F' d v L' → ∃ a us, v = .ref a ∧ OwnL X.K F' ds us [] ∧ ((d.kd = .lst ∧ ∀ H, Same F' H → InH [] H → SqL X.K H a us) ∨ (d.kd = .tup ∧ ∀ H, Same F' H → InH [] H → SqT X.K H a us)) := fun v H' F' L' st hl o => by
          have n := Own.fz_nil hf o
          subst n
          exact src_ok o e2 (by rw [hf] <;> rfl)
        cases hk : d.kd with
        | lst =>
          refine .inl ⟨F, L, E, cur, _, rl, svs_one e1, fun vs H' F' L' st hl o => ?_⟩
          obtain ⟨v, ev, oo⟩ := ownL_one o
          subst ev
          obtain ⟨a, us, ea, o2, ⟨_, k⟩ | ⟨k, _⟩⟩ := main v H' F' L' st hl oo
          · exact ⟨a, us, by rw [ea], k H' st.ok.fH (fun p hp => by cases hp), q (Ite X.K a, us) H' F' L [] st (rl.own.mono st.ff) (wk_enumL o2 k)⟩
          · rw [hk] at k; cases k
        | tup =>
          refine .inr ⟨F, L, E, cur, _, rl, svs_one e1, fun vs H' F' L' st hl o => ?_⟩
          obtain ⟨v, ev, oo⟩ := ownL_one o
          subst ev
          obtain ⟨a, us, ea, o2, ⟨k, _⟩ | ⟨_, k⟩⟩ := main v H' F' L' st hl oo
          · rw [hk] at k; cases k
          · exact ⟨a, us, by rw [ea], k H' st.ok.fH (fun p hp => by cases hp), q (Iet X.K a, us) H' F' L [] st (rl.own.mono st.ff) (wk_enumT o2 k)⟩
        | _ => cases d <;> first | (cases hk; done) | (cases e2; done)
      · exact q.elim
    · exact q.elim
  · exact q.elim
end
end VM

/-! Part L: list comprehensions. -/
namespace VM
open PySem PySem.Spec L2

section
variable {K : PySem.W.Frag} {F : Hp}
theorem clr_len (E : En) : ∀ vs : List Nat, (clr E vs).length = E.length
  | [] => rfl
  | v :: vs => by unfold clr; rw [List.length_set, clr_len E vs]
theorem OwnE.clr : ∀ {E : En} {σ : L2.St} {L : Fp} (vs : List Nat), OwnE K F E σ L → ∃ L2, OwnE K F (VM.clr E vs) (wipe σ vs) L2 ∧ Prt L2 L
  | E, σ, L, [], h => ⟨L, h, Prt.refl L⟩
  | E, σ, L, v :: vs, h => by
    obtain ⟨L1, h1, h2⟩ := OwnE.clr vs h
    obtain ⟨L2, h3, h4⟩ := h1.drop v none
    exact ⟨L2, h3, (Prt.of_sub h4).trans h2⟩
/-- slots that are empty in E do not matter -/
theorem OwnE.congr : ∀ {E : En} {σ σ' : L2.St} {L : Fp}, OwnE K F E σ L → σ'.length = σ.length → (∀ (j : Nat) (d : D), E[j]? = some (some d) → σ'[j]? = σ[j]?) → OwnE K F E σ' L
  | [], σ, σ', L, h, hl, _ => by
    obtain ⟨rfl, rfl⟩ := h
    exact ⟨List.eq_nil_of_length_eq_zero hl, rfl⟩
  | e :: es, σ, σ', L, h, hl, hj => by
    obtain ⟨s, r, L1, L2, rfl, rfl, h3, h4⟩ := h
    cases σ' with
    | nil => cases hl
    | cons t u =>
      refine ⟨t, u, L1, L2, rfl, rfl, ?_, OwnE.congr h4 (by simpa using hl) fun j d e1 => ?_⟩
      · cases e with
        | none => exact h3
        | some d =>
          have := hj 0 d rfl
          have : t = s := by simpa using this
          rw [this]
          exact h3
      · have := hj (j + 1) d (by simpa using e1)
        simpa using this
theorem clr_none (E : En) : ∀ (vs : List Nat) (j : Nat) (d : D), (clr E vs)[j]? = some (some d) → j ∉ vs
  | [], _, _, _ => by simp
  | v :: vs, j, d, h => by
    unfold clr at h
    by_cases e : v = j
    · subst e
      by_cases hv : v < (clr E vs).length
      · rw [List.getElem?_set_self hv] at h
        cases h
      · rw [List.getElem?_eq_none (by rw [List.length_set]; omega)] at h
        cases h
    · rw [List.getElem?_set_ne e] at h
      have := clr_none E vs j d h
      simp only [List.mem_cons, not_or]
      exact ⟨fun z => e z.symm, this⟩
theorem wipe_at (σ : L2.St) : ∀ (vs : List Nat) (j : Nat), j ∉ vs → (wipe σ vs)[j]? = σ[j]?
  | [], _, _ => rfl
  | v :: vs, j, h => by
    simp only [List.mem_cons, not_or] at h
    unfold wipe
    rw [List.getElem?_set_ne fun e => h.1 e.symm]
    exact wipe_at σ vs j h.2
theorem wipe_in (σ : L2.St) : ∀ (vs : List Nat) (j : Nat), j ∈ vs → j < σ.length → (wipe σ vs)[j]? = some none
  | [], _, h, _ => by cases h
  | v :: vs, j, h, hl => by
    unfold wipe
    by_cases e : v = j
    · subst e
      rw [List.getElem?_set_self (by rw [wipe_length]; exact hl)]
    · rw [List.getElem?_set_ne e]
      exact wipe_in σ vs j ((List.mem_cons.mp h).resolve_left fun z => e z.symm) hl
/-- back from the block's slots -/
theorem OwnE.unwipe {E : En} {σ : L2.St} {L : Fp} {vs : List Nat} (h : OwnE K F E (wipe σ vs) L) (c : ∀ (j : Nat) (d : D), E[j]? = some (some d) → j ∉ vs) : OwnE K F E σ L :=
  h.congr (by rw [wipe_length]) fun j d e => (wipe_at σ vs j (c j d e)).symm
theorem wipe_agr {σ σ2 : L2.St} {vs : List Nat} (h : Agr vs (wipe σ vs) σ2) (hl : σ2.length = σ.length) : wipe σ2 vs = wipe σ vs := by
  apply List.ext_getElem?
  intro j
  by_cases hj : j ∈ vs
  · by_cases hlt : j < σ.length
    · rw [wipe_in σ2 vs j hj (by omega), wipe_in σ vs j hj hlt]
    · rw [List.getElem?_eq_none (by rw [wipe_length]; omega), List.getElem?_eq_none (by rw [wipe_length]; omega)]
  · rw [wipe_at σ2 vs j hj, h j hj]
end
theorem bindAll_len : ∀ {is : List Nat} {ds : List D} {E E' : En}, bindAll is ds E = some E' → E'.length = E.length
  | [], [], E, E', e => by cases e; rfl
  | [], _ :: _, _, _, e => by cases e
  | _ :: _, [], _, _, e => by cases e
  | i :: is, d :: ds, E, E', e => by
    have e : (if i < E.length then bindAll is ds (E.set i (some d)) else none) = some E' := e
    split at e
    · rw [bindAll_len e, List.length_set]
    · cases e
theorem bind_len {t : Tg} {d : D} {E E' : En} (e : t.bind d E = some E') : E'.length = E.length := by
  cases t with
  | nm i =>
    have e : (if i < E.length then some (E.set i (some d)) else none) = some E' := e
    split at e
    · cases e; rw [List.length_set]
    · cases e
  | tup is =>
    cases d with
    | tup ds => exact bindAll_len (show bindAll is ds E = some E' from e)
    | _ => cases e
/-- within a comprehension -/
def Ctx.blk (Γ : Ctx) (scope : Scope) : Ctx := { Γ with sc := relS scope Γ.sc, body := false }
abbrev W0 : WX := fun _ _ _ _ => False
section
variable {Γ : Ctx} {pos p p2 apos : Pos}
theorem blk_ok {X : Cx} {W : WX} (c : CtxOk Γ X W) (hc : Γ.calm = true) (scope : Scope) (s : Shared) (H : Hp) (C : Addr) (cl : List (Str × Addr)) (fp : List Addr) : CtxOk (Γ.blk scope) (X.blk s H scope (compEnvC scope cl C X.env) fp) W0 where
  n := c.n
  nd := c.nd
  sc := by
    show relS scope X.env.scope = relS scope Γ.sc
    rw [c.sc]
  calm := c.calm
  tk := takes0
  po := PassesOwn.never
  rm1 := c.rm1
  rm2 := c.rm2
  un := c.un
  fns := c.fns
  gd := c.gd
  cla := c.cla
  fat := c.fat
  mth := c.mth
  free := c.free
  gl := c.gl
  bd := fun h => by cases h
  errs := fun k x h => by
    obtain ⟨C, e⟩ := c.errs k x h
    exact ⟨C, e.g, e.ga, e.c, e.no, e.xf, e.ini, e.is⟩
  exms := c.exms
  coldv := c.coldv
  cold := c.cold
  hot := fun cls d h => by
    have h : Γ.cu = some (cls, d) := h
    rw [c.cold hc] at h
    cases h
theorem evSrcOf {call : Nat → List D → Rr} {cur : Cur} {t : Tg} {elt : M} {src : Src} {cnd : Sx} {E : En} : ev call cur (.lc t elt src cnd) E = (evSrc call cur src E).bind fun items E1 => if items.length ≤ sizeLine then (match lcGo (ev call cur elt) (fun E => sv cur E cnd) t items (clr E1 t.asg) with
      | .ok xs E2 => R.ok (D.lst true xs) E2
      | _ => R.bad) else R.bad := by
  unfold ev R.bind
  cases evSrc call cur src E <;> rfl
/-- what the rest of the items gives -/
def LcEnd (Fin : List D → En → Prop) (acc : List D) (r : R (List D)) : Prop := match r with
  | .ok xs E2 => Fin (acc ++ xs) E2
  | _ => False
/-- what the walk of a comprehension wishes of its iterator -/
def LcW (g : TG) (tt : TT) (te : TE) (vs : List Nat) (σ : L2.St) (Q : VK) (J : It) (H1 : Hp) : Prop := ∀ D, H1 D = none → ∃ W : Nat → Nat → Hp → Prop, (∃ m, W 0 m (upd H1 D (.lst []))) ∧ ∀ i m H, W i m H →
  (J.stop i H ∧ Q (.ref D) H) ∨ (J.go i H ∧ ∃ Nx : Hp → Prop, (∀ H', Nx H' → ∃ m', m' < m ∧ W (i + 1) m' H') ∧ ∀ x H', J.yld i H x H' → g x (wipe σ vs) H' fun σ2 H2 => wipe σ2 vs = wipe σ vs ∧ tt σ2 H2 fun b H3 =>
    if b = true then te σ2 H3 fun y H4 => ∃ acc, H4 D = some (.lst acc) ∧ acc.length < sizeLine ∧ Nx (upd H4 D (.lst (acc ++ [y]))) else Nx H3)
theorem lc_walk {X : Cx} (Γ' : Ctx) (hcall : Γ'.call = Γ.call) (hcu : Γ'.cu = Γ.cu) (hen : Γ'.enm = Γ.enm) (htb : Γ'.tbs = Γ.tbs) (hhv : Γ'.hv = none) {t : Tg} {elt : M} {cnd : Sx} {tt : TT} (htt : ∀ σ H Q, tB (tS Γ' X cnd) σ H Q → tt σ H Q) {σ : L2.St} {F L H F1 L1 H1 Ls J ds E E1 cur} {Q : VK}
    (rl : Rel Γ X cur E F L σ H) (s1 : Step F L H F1 (Ls ++ L1) H1) (o1 : OwnE X.K F1 E1 σ L1) (wk : WkD X.K J F1 Ls ds) (hsz : ds.length ≤ sizeLine) (Fin : List D → En → Prop) (key : LcEnd Fin [] (lcGo (ev Γ.call cur elt) (fun E => sv cur E cnd) t ds (clr E1 t.asg)))
    (fin : ∀ xs E2 v H' F' Le M, Fin xs E2 → Step F L H F' ((M ++ Ls) ++ Le) H' → Same F1 F' → OwnE X.K F' E2 σ Le → Own X.K F' (.lst true xs) v M → Q v H') :
    LcW (tTg X t) tt (tE Γ' X W0 elt) t.asg σ Q J H1 := by
  intro Da hD
  refine ⟨fun i m Hc => ∃ F' Le Lc Ec accD accV, m = ds.length - i ∧ i ≤ ds.length ∧ Step F L H F' (((Da, HO.lst accV) :: (Lc ++ Ls)) ++ Le) Hc ∧ Same F1 F' ∧ OwnE X.K F' Ec (wipe σ t.asg) Le ∧ (∀ (j : Nat) (d : D), Ec[j]? = some (some d) → j ∉ t.asg) ∧ OwnL X.K F' accD accV Lc ∧ accD.length ≤ i ∧
      LcEnd Fin accD (lcGo (ev Γ.call cur elt) (fun E => sv cur E cnd) t (ds.drop i) Ec), ⟨ds.length, ?_⟩, ?_⟩
  · obtain ⟨Le, h1, h2⟩ := o1.clr t.asg
    have s2 := s1.trans (Step.newOwned s1.ok (.lst []) hD)
    refine ⟨F1, Le, [], clr E1 t.asg, [], [], rfl, Nat.zero_le _, ?_, fun _ _ z => z, h1, clr_none E1 t.asg, ⟨rfl, rfl⟩, Nat.le_refl _, key⟩
    refine s2.prt ?_
    show Prt ((Da, HO.lst []) :: (Ls ++ Le)) ((Da, HO.lst []) :: (Ls ++ L1))
    exact Prt.app (A := [(Da, HO.lst [])]) (Prt.refl _) (Prt.app (Prt.refl Ls) h2)
  · rintro i m Hc ⟨F', Le, Lc, Ec, accD, accV, rfl, hi, st, sf, oe, ec, oa, hal, ke⟩
    have iLs : InH Ls Hc := fun p hp => st.ok.inH p (by simp [hp])
    have wk' := wk.mono sf
    by_cases hlt : i < ds.length
    · refine .inr ⟨wk'.go i Hc st.ok.fH iLs (by omega), _, fun H' hn => ⟨ds.length - (i + 1), by omega, hn⟩, fun x H' y => ?_⟩
      obtain ⟨Fn, d, sn, hd, ov⟩ := wk'.yld i F' _ Hc x H' (fun _ _ z => z) st.ok iLs hlt y
      have hd2 : ds[i] = d := by
        rw [List.getElem?_eq_getElem hlt] at hd
        exact Option.some.inj hd
      rw [List.drop_eq_getElem_cons hlt, hd2] at ke
      unfold lcGo at ke
      replace st := st.trans sn
      replace oe := oe.mono sn.ff
      replace oa := oa.mono sn.ff
      replace sf := sf.trans sn.ff
      clear sn wk'
      have okE : Ok Fn ([] ++ Le) H' := st.ok.sub sub_r
      split at ke
      · rename_i E0 eb
        refine ⟨Fn, Le, [], d, Ec, E0, okE, oe, ov, eb, fun σ2 L2 o3 p3 ag => ?_⟩
        have hlen : σ2.length = σ.length := by
          rw [← o3.len, bind_len eb, oe.len, wipe_length]
        have hw : wipe σ2 t.asg = wipe σ t.asg := wipe_agr ag hlen
        refine ⟨hw, htt _ _ _ ?_⟩
        have st2 : Step F L H Fn (L2 ++ ((Da, HO.lst accV) :: (Lc ++ Ls))) H' := st.prt ((Prt.app p3 (Prt.refl _)).trans Prt.swap)
        have ok2 : Ok Fn L2 H' := st2.ok.left
        have cu2 : CurOk X.K X.mg Γ'.enm Fn Γ'.cu cur := by rw [hcu, hen]; exact rl.cur.mono st.ff
        have tb2 : ∀ P, Γ'.tbs P → GxR.TabG H' P := fun P h => st.tab P (rl.tab P (by rw [← htb]; exact h))
        split at ke
        · rename_i ec1
          refine ⟨Fn, L2, E0, cur, _, ⟨ok2, o3, cu2, tb2, fun i a h => by rw [hhv] at h; cases h⟩, ec1, fun vb H3 F3 Lb s3 pb ob => ⟨true, bl_inv ob, iteT ?_⟩⟩
          split at ke
          · rename_i x1 E2 ee
            have st3 := st2.frame s3
            refine ⟨F3, L2, E0, cur, ⟨s3.ok, o3.mono s3.ff, cu2.mono s3.ff, fun P h => s3.tab P (tb2 P h), fun i a h => by rw [hhv] at h; cases h⟩, ?_⟩
            rw [hcall, ee]
            intro y H4 F4 M1 M2 s4 o4 o5
            have st4 := st3.frame s4
            have hacc : H4 Da = some (.lst accV) := st4.ok.inH (Da, .lst accV) (List.mem_append_right _ List.mem_cons_self)
            refine ⟨accV, hacc, by rw [← oa.length]; omega, ?_⟩
            have ff := (s3.ff.trans s4.ff)
            obtain ⟨Le', h1, h2⟩ := o4.clr t.asg
            rw [hw] at h1
            have pm : ((Da, HO.lst accV) :: (((M2 ++ M1) ++ (Lc ++ Ls)))).Perm ((M2 ++ M1) ++ ((Da, HO.lst accV) :: (Lc ++ Ls))) := List.perm_middle.symm
            have st5 := st4.perm pm
            have st6 := st5.trans (Step.write st5.ok (.lst (accV ++ [y])))
            refine ⟨F4, Le', Lc ++ M2, clr E2 t.asg, accD ++ [x1], accV ++ [y], rfl, hlt, st6.prt ?_, sf.trans ff, h1, clr_none E2 t.asg, (oa.mono ff).append ⟨y, [], M2, [], rfl, by rw [List.append_nil], o5, rfl, rfl⟩, by rw [List.length_append, List.length_singleton]; omega, ?_⟩
            · show Prt ((Da, HO.lst (accV ++ [y])) :: (((Lc ++ M2) ++ Ls) ++ Le')) ((Da, HO.lst (accV ++ [y])) :: ((M2 ++ M1) ++ (Lc ++ Ls)))
              refine Prt.app (A := [(Da, HO.lst (accV ++ [y]))]) (Prt.refl _) ?_
              refine (Prt.app (Prt.refl _) h2).trans ?_
              refine Prt.of_perm ?_
              have e1 : (((Lc ++ M2) ++ Ls) ++ M1).Perm (((M2 ++ Lc) ++ Ls) ++ M1) := (List.perm_append_comm.append_right Ls).append_right M1
              refine e1.trans ?_
              rw [List.append_assoc, List.append_assoc]
              show (M2 ++ (Lc ++ (Ls ++ M1))).Perm ((M2 ++ M1) ++ (Lc ++ Ls))
              rw [List.append_assoc M2 M1]
              refine List.Perm.append_left M2 ?_
              rw [← List.append_assoc]
              exact List.perm_append_comm
            · unfold LcEnd at ke ⊢
              split at ke
              · rename_i xs E3 e3
                split at e3
                · rename_i xs' E3' e4
                  cases e3
                  try rw [e4]
                  show Fin ((accD ++ [x1]) ++ xs') _
                  rw [List.append_assoc]
                  exact ke
                · cases e3
              · exact ke.elim
          · exact ke.elim
        · rename_i ec1
          refine ⟨Fn, L2, E0, cur, _, ⟨ok2, o3, cu2, tb2, fun i a h => by rw [hhv] at h; cases h⟩, ec1, fun vb H3 F3 Lb s3 pb ob => ⟨false, bl_inv ob, iteF ?_⟩⟩
          have st3 := st2.frame s3
          obtain ⟨Le', h1, h2⟩ := (o3.mono s3.ff).clr t.asg
          rw [hw] at h1
          refine ⟨F3, Le', Lc, clr E0 t.asg, accD, accV, rfl, hlt, st3.prt ?_, sf.trans s3.ff, h1, clr_none E0 t.asg, oa.mono s3.ff, by omega, ke⟩
          exact Prt.swap.trans (Prt.app h2 (Prt.refl _))
        · exact ke.elim
      · exact ke.elim
    · have hi' : i = ds.length := by omega
      subst hi'
      rw [List.drop_length] at ke
      refine .inl ⟨wk'.stop _ Hc st.ok.fH iLs (by omega), ?_⟩
      have ke : Fin (accD ++ []) Ec := ke
      rw [List.append_nil] at ke
      exact fin _ _ (.ref Da) Hc F' Le ((Da, .lst accV) :: Lc) ke st sf (oe.unwipe ec) ⟨Da, accV, Lc, rfl, rfl, oa⟩
theorem lc_sim {X : Cx} {W : WX} (Γ' : Ctx) (hcall : Γ'.call = Γ.call) (hcu : Γ'.cu = Γ.cu) (hen : Γ'.enm = Γ.enm) (htb : Γ'.tbs = Γ.tbs) (hhv : Γ'.hv = none) {t : Tg} {elt : M} {src : Src} {cnd : Sx} {tt : TT} (htt : ∀ σ H Q, tB (tS Γ' X cnd) σ H Q → tt σ H Q) (σ : L2.St) (H : Hp) (Q : VK) (h : tE Γ X W (.lc t elt src cnd) σ H Q) :
    tLc (tSrc Γ X W src) (tTg X t) tt (tE Γ' X W0 elt) t.asg σ H Q := by
  obtain ⟨F, L, E, cur, rl, q⟩ := h
  rw [evSrcOf] at q
  refine ⟨F, L, E, cur, rl, Bs.bind0 rl.ok q fun ds E1 q1 p H1 F1 L1 Ls s1 o1 o2 => ?_⟩
  obtain ⟨J, us⟩ := p
  have wk : WkD X.K J F1 Ls ds := o2
  split at q1
  · rename_i hsz
    refine lc_walk Γ' hcall hcu hen htb hhv htt rl s1 o1 wk hsz (fun xs E2 => Bs Γ X W σ F L H (ro X) (R.ok (D.lst true xs) E2) Q) ?_ fun xs E2 v H' F' Le M q st sf oe o => q v H' F' Le M (st.prt (Prt.app Prt.left (Prt.refl _))) oe o
    unfold LcEnd
    split at q1
    · exact q1
    · exact q1.elim
  · exact q1.elim
/-- over what stands at a name, also a list that is owned -/
theorem lcl_sim {X : Cx} {W : WX} (Γ' : Ctx) (hcall : Γ'.call = Γ.call) (hcu : Γ'.cu = Γ.cu) (hen : Γ'.enm = Γ.enm) (htb : Γ'.tbs = Γ.tbs) (hhv : Γ'.hv = none) {t : Tg} {elt : M} {i : Nat} {cnd : Sx} {tt : TT} (htt : ∀ σ H Q, tB (tS Γ' X cnd) σ H Q → tt σ H Q) (σ : L2.St) (H : Hp) (Q : VK) (h : tE Γ X W (.lcl t elt i cnd) σ H Q) :
    tLc (fun σ H Z => iList X.K (tVar i) σ H Z ∨ iTup X.K (tVar i) σ H Z) (tTg X t) tt (tE Γ' X W0 elt) t.asg σ H Q := by
  obtain ⟨F, L, E, cur, rl, q⟩ := h
  have q : Bs Γ X W σ F L H (ro X) (match E[i]? with
    | some (some l) => (match l.items with
      | some xs => if (l.fz || fzL xs) = true ∧ xs.length ≤ sizeLine ∧ i ∉ t.asg then (match lcGo (ev Γ.call cur elt) (fun E => sv cur E cnd) t xs (clr (E.set i none) t.asg) with
        | .ok ys E2 => (match E2[i]? with
          | some none => R.ok (D.lst true ys) (E2.set i (some l))
          | _ => .bad)
        | _ => .bad) else .bad
      | none => .bad)
    | _ => .bad) Q := q
  split at q
  · rename_i l e1
    split at q
    · rename_i xs e2
      split at q
      · rename_i hc
        obtain ⟨hf, hsz, hni⟩ := hc
        obtain ⟨v, L1, L2, h1, h2, h3, h4⟩ := rl.own.take e1
        have st : Step F L H F (L1 ++ L2) H := (Step.refl rl.ok).perm h4
        have key : LcEnd (fun xs E2 => Bs Γ X W σ F L H (ro X) (match E2[i]? with
          | some none => R.ok (D.lst true xs) (E2.set i (some l))
          | _ => .bad) Q) [] (lcGo (ev Γ.call cur elt) (fun E => sv cur E cnd) t xs (clr (E.set i none) t.asg)) := by
          unfold LcEnd
          split at q
          · exact q
          · exact q.elim
        have fin : ∀ ys E2 v' H' F' Le M, Bs Γ X W σ F L H (ro X) (match E2[i]? with
          | some none => R.ok (D.lst true ys) (E2.set i (some l))
          | _ => .bad) Q → Step F L H F' ((M ++ L1) ++ Le) H' → Same F F' → OwnE X.K F' E2 σ Le → Own X.K F' (.lst true ys) v' M → Q v' H' := fun ys E2 v' H' F' Le M q st sf oe o => by
          split at q
          · rename_i e3
            obtain ⟨L', o5, p5⟩ := oe.fillS e3 h1 (h2.mono sf)
            refine q v' H' F' L' M (st.prt ?_) o5 o
            rw [List.append_assoc]
            exact Prt.app (Prt.refl _) p5
          · exact q.elim
        obtain ⟨a, us, rfl, o3, k⟩ := src_ok h2 e2 hf
        rcases k with ⟨_, k⟩ | ⟨_, k⟩
        · exact .inl ⟨_, h1, a, rfl, ⟨us, k H st.ok.fH st.ok.left.inH⟩, lc_walk Γ' hcall hcu hen htb hhv htt rl st h3 (Wk.toD o3 (wk_list k)) hsz _ key fin⟩
        · exact .inr ⟨_, h1, a, rfl, ⟨us, k H st.ok.fH st.ok.left.inH⟩, lc_walk Γ' hcall hcu hen htb hhv htt rl st h3 (Wk.toD o3 (wk_tup k)) hsz _ key fin⟩
      · exact q.elim
    · exact q.elim
  · exact q.elim
/-- what is said of one context is said of another one over the same text -/
theorem Rel.cx {X Y : Cx} (hK : Y.K = X.K) (hm : Y.mg = X.mg) {cur : Cur} {E : En} {F : Hp} {L : Fp} {σ : L2.St} {H : Hp} (r : Rel Γ X cur E F L σ H) : Rel Γ Y cur E F L σ H := ⟨r.ok, by rw [hK]; exact r.own, by rw [hK, hm]; exact r.cur, r.tab, r.hv⟩
theorem tE_cx {X Y : Cx} (hK : Y.K = X.K) (hm : Y.mg = X.mg) {W : WX} {m : M} (σ : L2.St) (H : Hp) (Q : VK) (h : tE Γ X W m σ H Q) : tE Γ Y W m σ H Q := by
  obtain ⟨F, L, E, cur, rl, q⟩ := h
  refine ⟨F, L, E, cur, rl.cx hK hm, ?_⟩
  cases e : ev Γ.call cur m E with
  | ok d E' =>
    rw [e] at q
    intro v H' F' L1 L2 s o1 o2
    exact q v H' F' L1 L2 s (by rw [← hK]; exact o1) (show Own X.K F' d v L2 by rw [← hK]; exact o2)
  | exc c d E' =>
    rw [e] at q
    intro cls dd H' F' L1 s o1 o2
    exact q cls dd H' F' L1 s (by rw [← hK]; exact o1) (by rw [← hK, ← hm]; exact o2)
  | bad =>
    rw [e] at q
    exact q
theorem tS_cx {X Y : Cx} (hK : Y.K = X.K) (hm : Y.mg = X.mg) {m : Sx} (σ : L2.St) (H : Hp) (Q : VK) (h : tS Γ X m σ H Q) : tS Γ Y m σ H Q := by
  obtain ⟨F, L, E, cur, d, rl, e, q⟩ := h
  refine ⟨F, L, E, cur, d, rl.cx hK hm, e, fun v H' F' L' s hl o => q v H' F' L' s hl (by rw [← hK]; exact o)⟩
theorem tTg_cx {X Y : Cx} (hK : Y.K = X.K) {t : Tg} (v : V) (σ : L2.St) (H : Hp) (Q : L2.St → Hp → Prop) (h : tTg X t v σ H Q) : tTg Y t v σ H Q := by
  obtain ⟨F, L, M, d, E, E', ok, o1, o2, e, q⟩ := h
  exact ⟨F, L, M, d, E, E', ok, by rw [hK]; exact o1, by rw [hK]; exact o2, e, fun σ' L' o3 => q σ' L' (by rw [← hK]; exact o3)⟩
/-- [elt for t in src] -/
theorem ge_lc0 {tg iter elt : Expr} {scope : Scope} {own : List (Str × Nat)} {t : Tg} {m : M} {src : Src} (hc : Γ.calm = true) (hi : GS Γ tg iter src) (ht : GTg (Γ.blk scope) tg t) (he : GE (Γ.blk scope) elt m) (hown : own.map (·.2) = t.asg) (ok : blkC Γ.N Γ.sc scope own = true) (hs : ∀ (env : PySem.Env) x, foldedSetIterable iter env x = pure x := by intro _ _; rfl) :
    GE Γ (.ListComp elt [⟨tg, iter, [], 0⟩] scope pos) (.lc t m src (.cst (.bl true))) := fun X W c => by
  have h := pe_lc (elt := elt) (pos := pos) (c.calm hc) c.nd (hi X W c) (scope := scope) (own := own) (blkOk_by (by rw [c.n, c.sc]; exact ok)) (g := tTg X t) (tt := tYes) (te := tE (Γ.blk scope) X W0 m)
    (fun s H C cl fp => PG.imp (ht _ _ (blk_ok c hc scope s H C cl fp)) (tTg_cx rfl)) (fun s H C cl fp => pts_nil) (fun s H C cl fp => PE.imp (he _ _ (blk_ok c hc scope s H C cl fp)) (tE_cx (X := X) (Y := X.blk s H scope (compEnvC scope cl C X.env) fp) rfl rfl)) (hs _)
  rw [hown] at h
  exact PE.imp h (lc_sim (Γ := Γ) (Γ.blk scope) rfl rfl rfl rfl (c.coldv hc) fun σ H Q z => by
    obtain ⟨F, L, E, cur, d, rl, e, q⟩ := z
    have e : some (D.bl true) = some d := e
    cases e
    obtain ⟨k, hk, q1⟩ := q (.bl true) H F [] (Step.refl rl.ok) (fun p hp => by cases hp) bl_own
    cases hk
    exact q1)
/-- [elt for t in x], x a name -/
theorem ge_lcl {tg elt : Expr} {i : Nat} {x : Str} {scope : Scope} {own : List (Str × Nat)} {t : Tg} {m : M} (hc : Γ.calm = true) (ht : GTg (Γ.blk scope) tg t) (he : GE (Γ.blk scope) elt m) (hown : own.map (·.2) = t.asg) (ok : blkC Γ.N Γ.sc scope own = true) (hN : Γ.N[i]? = some x := by rfl) (hv : Vis Γ.sc x := by first | exact Or.inl rfl | exact Or.inr (Or.inl rfl) | exact Or.inr (Or.inr rfl)) (hd : (x == ("__debug__" : Str)) = false := by decide) (hcd : (x == ("__classdict__" : Str)) = false := by decide) :
    GE Γ (.ListComp elt [⟨tg, .Name x p, [], 0⟩] scope pos) (.lcl t m i (.cst (.bl true))) := fun X W c => by
  have hv' := pe_var (X := X) (pos := p) (i := i) (by rw [c.n]; exact hN) (by rw [c.sc]; exact hv) hd hcd
  have h := pe_lc (elt := elt) (pos := pos) (c.calm hc) c.nd (PI.or (pi_list (tg := tg) hv') (pi_tup hv')) (scope := scope) (own := own) (blkOk_by (by rw [c.n, c.sc]; exact ok)) (g := tTg X t) (tt := tYes) (te := tE (Γ.blk scope) X W0 m)
    (fun s H C cl fp => PG.imp (ht _ _ (blk_ok c hc scope s H C cl fp)) (tTg_cx rfl)) (fun s H C cl fp => pts_nil) (fun s H C cl fp => PE.imp (he _ _ (blk_ok c hc scope s H C cl fp)) (tE_cx (X := X) (Y := X.blk s H scope (compEnvC scope cl C X.env) fp) rfl rfl)) 
  rw [hown] at h
  exact PE.imp h (lcl_sim (Γ := Γ) (cnd := .cst (.bl true)) (Γ.blk scope) rfl rfl rfl rfl (c.coldv hc) fun σ H Q z => by
    obtain ⟨F, L, E, cur, d, rl, e, q⟩ := z
    have e : some (D.bl true) = some d := e
    cases e
    obtain ⟨k, hk, q1⟩ := q (.bl true) H F [] (Step.refl rl.ok) (fun p hp => by cases hp) bl_own
    cases hk
    exact q1)
/-- [elt for t in src if cnd] -/
theorem ge_lc1 {tg iter elt cnd : Expr} {scope : Scope} {own : List (Str × Nat)} {t : Tg} {m : M} {src : Src} {sc : Sx} (hc : Γ.calm = true) (hi : GS Γ tg iter src) (ht : GTg (Γ.blk scope) tg t) (he : GE (Γ.blk scope) elt m) (hcn : GXT (Γ.blk scope) cnd sc) (hown : own.map (·.2) = t.asg) (ok : blkC Γ.N Γ.sc scope own = true) (hs : ∀ (env : PySem.Env) x, foldedSetIterable iter env x = pure x := by intro _ _; rfl) :
    GE Γ (.ListComp elt [⟨tg, iter, [cnd], 0⟩] scope pos) (.lc t m src sc) := fun X W c => by
  have h := pe_lc (elt := elt) (ifs := [cnd]) (pos := pos) (c.calm hc) c.nd (hi X W c) (scope := scope) (own := own) (blkOk_by (by rw [c.n, c.sc]; exact ok)) (g := tTg X t) (tt := tB (tS (Γ.blk scope) X sc)) (te := tE (Γ.blk scope) X W0 m)
    (fun s H C cl fp => PG.imp (ht _ _ (blk_ok c hc scope s H C cl fp)) (tTg_cx rfl)) (fun s H C cl fp => pts_one (PT.imp (hcn _ _ (blk_ok c hc scope s H C cl fp)) fun σ H' Q z => tS_cx (X := X) (Y := X.blk s H scope (compEnvC scope cl C X.env) fp) rfl rfl σ H' _ z)) (fun s H C cl fp => PE.imp (he _ _ (blk_ok c hc scope s H C cl fp)) (tE_cx (X := X) (Y := X.blk s H scope (compEnvC scope cl C X.env) fp) rfl rfl)) (hs _)
  rw [hown] at h
  exact PE.imp h (lc_sim (Γ := Γ) (Γ.blk scope) rfl rfl rfl rfl (c.coldv hc) fun σ H Q z => z)
end
end VM

/-! Part M: statements. -/
namespace VM
open PySem PySem.Spec L2

/-- what is wanted of a statement's outcome, begun at σ, F, L, H -/
def Os (Γ : Ctx) (X : Cx) (W : WX) (σ : L2.St) (asg : List Nat) (F : Hp) (L : Fp) (H : Hp) (o : O) (D : Ends) : Prop := match o with
  | .nx E' => ∀ σ' H' F' L', Step F L H F' L' H' → OwnE X.K F' E' σ' L' → Agr asg σ σ' → D.nx σ' H'
  | .brk E' => ∀ σ' H' F' L', Step F L H F' L' H' → OwnE X.K F' E' σ' L' → Agr asg σ σ' → D.bk σ' H'
  | .cnt E' => ∀ σ' H' F' L', Step F L H F' L' H' → OwnE X.K F' E' σ' L' → Agr asg σ σ' → D.ct σ' H'
  | .rt d E' => ∀ v σ' H' F' L1 L2, Step F L H F' (L2 ++ L1) H' → OwnE X.K F' E' σ' L1 → Own X.K F' d v L2 → Agr asg σ σ' → D.rt v H'
  | .exc c d E' => ∀ cls dd σ' H' F' L', Step F L H F' L' H' → OwnE X.K F' E' σ' L' → ExcIs X.K X.mg Γ.enm F' c d cls dd → Agr asg σ σ' → W cls dd σ' H'
  | .bad => False
def tSt (Γ : Ctx) (X : Cx) (W : WX) (s : S) : TS := fun D σ H => ∃ F L E cur, Rel Γ X cur E F L σ H ∧ Os Γ X W σ s.asg F L H (ex Γ.call Γ.W cur s E) D
def tBl (Γ : Ctx) (X : Cx) (W : WX) (b : B) : TS := fun D σ H => ∃ F L E cur, Rel Γ X cur E F L σ H ∧ Os Γ X W σ b.asg F L H (exs Γ.call Γ.W cur b E) D
/-- the caught error's name is not stored -/
def Hv (Γ : Ctx) (l : List Nat) : Prop := ∀ i a, Γ.hv = some (i, a) → i ∉ l
theorem Hv.mono {Γ : Ctx} {l m : List Nat} (h : Hv Γ m) (s : ∀ j ∈ l, j ∈ m) : Hv Γ l := fun i a e k => h i a e (s i k)
def GSt (Γ : Ctx) (st : Stmt) (s : S) : Prop := Hv Γ s.asg → ∀ X W, CtxOk Γ X W → PS X st (tSt Γ X W s)
def GB (Γ : Ctx) (st : List Stmt) (b : B) : Prop := Hv Γ b.asg → ∀ X W, CtxOk Γ X W → PSs X st (tBl Γ X W b)
def R.toO {α : Type} (r : R α) (f : α → En → O) : O := match r with
  | .ok a E => f a E
  | .exc c d E => .exc c d E
  | .bad => .bad
section
variable {Γ : Ctx} {X : Cx} {W : WX}
theorem Os.shift {σ σ1 : L2.St} {a a1 a2 : List Nat} {F F1 : Hp} {L L1 : Fp} {H H1 : Hp} {o : O} {D : Ends} (s : Step F L H F1 L1 H1) (g : Agr a1 σ σ1) (h1 : ∀ j ∈ a1, j ∈ a) (h2 : ∀ j ∈ a2, j ∈ a) (h : Os Γ X W σ a F L H o D) : Os Γ X W σ1 a2 F1 L1 H1 o D := by
  have gg : ∀ {σ'}, Agr a2 σ1 σ' → Agr a σ σ' := fun k => (g.mono h1).trans (k.mono h2)
  cases o with
  | nx E => exact fun σ' H' F' L' t o k => h σ' H' F' L' (s.trans t) o (gg k)
  | brk E => exact fun σ' H' F' L' t o k => h σ' H' F' L' (s.trans t) o (gg k)
  | cnt E => exact fun σ' H' F' L' t o k => h σ' H' F' L' (s.trans t) o (gg k)
  | rt d E => exact fun v σ' H' F' L1 L2 t o q k => h v σ' H' F' L1 L2 (s.trans t) o q (gg k)
  | exc c d E => exact fun cls dd σ' H' F' L' t o q k => h cls dd σ' H' F' L' (s.trans t) o q (gg k)
  | bad => exact h
theorem Os.bind {σ : L2.St} {a : List Nat} {F : Hp} {L : Fp} {H : Hp} {D : Ends} {α β : Type} {rep : Hp → α → β → Fp → Prop} {r : R α} {f : α → En → O} {Q : β → Hp → Prop} (h : Os Γ X W σ a F L H (r.toO f) D)
    (k : ∀ d E1, Os Γ X W σ a F L H (f d E1) D → ∀ v H1 F1 L1 L2, Step F L H F1 (L2 ++ L1) H1 → OwnE X.K F1 E1 σ L1 → rep F1 d v L2 → Q v H1) : Bs Γ X W σ F L H rep r Q := by
  cases r with
  | ok d E1 => exact fun v H1 F1 L1 L2 s o q => k d E1 h v H1 F1 L1 L2 s o q
  | exc c d E1 => exact fun cls dd H1 F1 L1 s o q => h cls dd σ H1 F1 L1 s o q (Agr.refl _)
  | bad => exact h
end
section
variable {Γ : Ctx} {pos p p2 apos : Pos}
/-! ### blocks -/
theorem gb_nil : GB Γ [] .nil := fun hhv X W c => PSs.imp pss_nil fun D σ H h => by
  obtain ⟨F, L, E, cur, rl, q⟩ := h
  exact q σ H F L (Step.refl rl.ok) rl.own (Agr.refl _)
theorem gb_cons {st : Stmt} {rest : List Stmt} {s : S} {b : B} (h1 : GSt Γ st s) (h2 : GB Γ rest b) : GB Γ (st :: rest) (.cons s b) := fun hhv X W c => PSs.imp (pss_cons (h1 (hhv.mono fun j h => List.mem_append_left _ h) X W c) (h2 (hhv.mono fun j h => List.mem_append_right _ h) X W c)) fun D σ H h => by
  obtain ⟨F, L, E, cur, rl, q⟩ := h
  have q : Os Γ X W σ (s.asg ++ b.asg) F L H (match ex Γ.call Γ.W cur s E with
    | .nx E1 => exs Γ.call Γ.W cur b E1
    | o => o) D := q
  refine ⟨F, L, E, cur, rl, ?_⟩
  have ml : ∀ j ∈ s.asg, j ∈ s.asg ++ b.asg := fun j hj => List.mem_append_left _ hj
  have mr : ∀ j ∈ b.asg, j ∈ s.asg ++ b.asg := fun j hj => List.mem_append_right _ hj
  cases e : ex Γ.call Γ.W cur s E with
  | nx E1 =>
    rw [e] at q
    intro σ' H' F' L' t o k
    exact ⟨F', L', E1, cur, ⟨t.ok, o, rl.cur.mono t.ff, fun P h => t.tab P (rl.tab P h), fun i a h => by rw [k i (hhv.mono ml i a h)]; exact rl.hv i a h⟩, Os.shift t k ml mr q⟩
  | brk E1 =>
    rw [e] at q
    exact fun σ' H' F' L' t o k => q σ' H' F' L' t o (k.mono ml)
  | cnt E1 =>
    rw [e] at q
    exact fun σ' H' F' L' t o k => q σ' H' F' L' t o (k.mono ml)
  | rt d E1 =>
    rw [e] at q
    exact fun v σ' H' F' L1 L2 t o z k => q v σ' H' F' L1 L2 t o z (k.mono ml)
  | exc c d E1 =>
    rw [e] at q
    exact fun cls dd σ' H' F' L' t o z k => q cls dd σ' H' F' L' t o z (k.mono ml)
  | bad =>
    rw [e] at q
    exact q
/-! ### stores -/
theorem ex_set {call : Nat → List D → Rr} {W : Nat} {cur : Cur} {t : Tg} {m : M} {E : En} : ex call W cur (.set t m) E = (ev call cur m E).toO fun d E1 => match t.bind d E1 with
      | some E2 => .nx E2
      | none => .bad := by
  unfold ex R.toO
  cases ev call cur m E <;> rfl
theorem set_of {X : Cx} {W : WX} {st : Stmt} {te : TE} {i : Nat} {m : M} (h : PS X st (tAsg te (gName i))) (imp : ∀ σ H Q, tE Γ X W m σ H Q → te σ H Q) : PS X st (tSt Γ X W (.set (.nm i) m)) := PS.imp h fun D σ H z => by
  obtain ⟨F, L, E, cur, rl, q⟩ := z
  rw [ex_set] at q
  refine imp σ H _ ⟨F, L, E, cur, rl, Os.bind q fun d E1 q1 v H1 F1 L1 L2 s1 o1 o2 => ?_⟩
  have q1 : Os Γ X W σ [i] F L H (match (if i < E1.length then some (E1.set i (some d)) else none) with
      | some E2 => .nx E2
      | none => .bad) D := q1
  by_cases hi : i < E1.length
  · rw [if_pos hi] at q1
    obtain ⟨L', h1, h2⟩ := o1.storeS hi o2
    exact q1 _ H1 F1 L' (s1.prt h2) h1 (Agr.set _)
  · rw [if_neg hi] at q1
    exact q1.elim
/-- e is no display that is stored in one go -/
def SW (e : Expr) (x : Str) : Prop := ∀ (env : PySem.Env) (line : Nat) (p : Pos), swapsWith e (some (.Name x p)) line env = pure false
theorem gst_set {i : Nat} {x : Str} {e : Expr} {m : M} {pos' : Pos} (he : GE Γ e m) (hb : Γ.body = true := by rfl) (sw : SW e x := by intro _ _ _; rfl) (hN : Γ.N[i]? = some x := by rfl) (hx : Loc Γ.sc x := by first | exact Or.inl rfl | exact Or.inr rfl) : GSt Γ (.Assign [.Name x pos'] e pos) (.set (.nm i) m) := fun hhv X W c =>
  set_of (ps_set (i := i) c.nd (by rw [c.n]; exact hN) (by rw [c.sc]; exact hx) (he X W c) (sw _ _ _) (.inl ((c.bd hb).2.2.2 x))) fun σ H Q z => z
/-- a, b = e -/
theorem gst_unp {tg e : Expr} {t : Tg} {m : M} (he : GE Γ e m) (ht : GTg Γ tg t) (hs : ∀ (env : PySem.Env) (line : Nat), swapsWithSole [tg] e line env = pure false := by intro _ _; rfl) (hw : ∀ env : PySem.Env, swappedStores [tg] e env = pure none := by intro _; rfl)
    (h1 : ∀ env : PySem.Env, (assignEach [tg] env).map (·.2) = [assign tg env] := by intro _; rfl) : GSt Γ (.Assign [tg] e pos) (.set t m) := fun hhv X W c => PS.imp (ps_asg (he X W c) (ht X W c) (hs _ _) (hw _) (h1 _)) fun D σ H z => by
  obtain ⟨F, L, E, cur, rl, q⟩ := z
  rw [ex_set] at q
  refine ⟨F, L, E, cur, rl, Os.bind q fun d E1 q1 v H1 F1 L1 L2 s1 o1 o2 => ?_⟩
  have q1 : Os Γ X W σ t.asg F L H (match t.bind d E1 with
      | some E2 => .nx E2
      | none => .bad) D := q1
  split at q1
  · rename_i E2 e2
    exact ⟨F1, L1, L2, d, E1, E2, s1.ok, o1, o2, e2, fun σ' L' o p ag => q1 σ' H1 F1 L' (s1.prt p) o ag⟩
  · exact q1.elim
/-- name = [..], a comprehension on the name's line -/
theorem gst_setLc0 {i : Nat} {y : Str} {py spos : Pos} {tg iter elt : Expr} {scope : Scope} {own : List (Str × Nat)} {t : Tg} {m : M} {src : Src} (hc : Γ.calm = true) (hi : GS Γ tg iter src) (ht : GTg (Γ.blk scope) tg t) (he : GE (Γ.blk scope) elt m) (hown : own.map (·.2) = t.asg) (ok : blkC Γ.N Γ.sc scope own = true)
    (hk : Γ.sc.kind = .function) (hN : Γ.N[i]? = some y) (hy : Γ.sc.names.lookup y = some .local) (hl : (py.line == pos.line) = true) (ha : (scope.names.any fun (n, k) => n == y && (k == .local || k == .cell)) = false) (hs : ∀ (env : PySem.Env) x, foldedSetIterable iter env x = pure x := by intro _ _; rfl) :
    GSt Γ (.Assign [.Name y py] (.ListComp elt [⟨tg, iter, [], 0⟩] scope pos) spos) (.set (.nm i) (.lc t m src (.cst (.bl true)))) := fun hhv X W c => by
  have h := ps_setLc (i := i) (y := y) (py := py) (elt := elt) (pos := pos) (spos := spos) (c.calm hc) c.nd (by rw [c.n]; exact hN) (by rw [c.sc]; exact hy) (sw_true (by rw [c.sc]; exact hk) (by rw [c.sc]; exact hy) hl ha) (hi X W c) (scope := scope) (own := own) (blkOk_by (by rw [c.n, c.sc]; exact ok)) (g := tTg X t) (tt := tYes) (te := tE (Γ.blk scope) X W0 m)
    (fun s H C cl fp => PG.imp (ht _ _ (blk_ok c hc scope s H C cl fp)) (tTg_cx rfl)) (fun s H C cl fp => pts_nil) (fun s H C cl fp => PE.imp (he _ _ (blk_ok c hc scope s H C cl fp)) (tE_cx (X := X) (Y := X.blk s H scope (compEnvC scope cl C X.env) fp) rfl rfl)) (hs _)
  rw [hown] at h
  exact set_of h (lc_sim (Γ := Γ) (Γ.blk scope) rfl rfl rfl rfl (c.coldv hc) fun σ H Q z => by
    obtain ⟨F, L, E, cur, d, rl, e, q⟩ := z
    have e : some (D.bl true) = some d := e
    cases e
    obtain ⟨k, hk, q1⟩ := q (.bl true) H F [] (Step.refl rl.ok) (fun p hp => by cases hp) bl_own
    cases hk
    exact q1)
theorem gst_setLc1 {i : Nat} {y : Str} {py spos : Pos} {tg iter elt cnd : Expr} {scope : Scope} {own : List (Str × Nat)} {t : Tg} {m : M} {src : Src} {sc : Sx} (hc : Γ.calm = true) (hi : GS Γ tg iter src) (ht : GTg (Γ.blk scope) tg t) (he : GE (Γ.blk scope) elt m) (hcn : GXT (Γ.blk scope) cnd sc) (hown : own.map (·.2) = t.asg) (ok : blkC Γ.N Γ.sc scope own = true)
    (hk : Γ.sc.kind = .function) (hN : Γ.N[i]? = some y) (hy : Γ.sc.names.lookup y = some .local) (hl : (py.line == pos.line) = true) (ha : (scope.names.any fun (n, k) => n == y && (k == .local || k == .cell)) = false) (hs : ∀ (env : PySem.Env) x, foldedSetIterable iter env x = pure x := by intro _ _; rfl) :
    GSt Γ (.Assign [.Name y py] (.ListComp elt [⟨tg, iter, [cnd], 0⟩] scope pos) spos) (.set (.nm i) (.lc t m src sc)) := fun hhv X W c => by
  have h := ps_setLc (i := i) (y := y) (py := py) (elt := elt) (ifs := [cnd]) (pos := pos) (spos := spos) (c.calm hc) c.nd (by rw [c.n]; exact hN) (by rw [c.sc]; exact hy) (sw_true (by rw [c.sc]; exact hk) (by rw [c.sc]; exact hy) hl ha) (hi X W c) (scope := scope) (own := own) (blkOk_by (by rw [c.n, c.sc]; exact ok)) (g := tTg X t) (tt := tB (tS (Γ.blk scope) X sc)) (te := tE (Γ.blk scope) X W0 m)
    (fun s H C cl fp => PG.imp (ht _ _ (blk_ok c hc scope s H C cl fp)) (tTg_cx rfl)) (fun s H C cl fp => pts_one (PT.imp (hcn _ _ (blk_ok c hc scope s H C cl fp)) fun σ H' Q z => tS_cx (X := X) (Y := X.blk s H scope (compEnvC scope cl C X.env) fp) rfl rfl σ H' _ z)) (fun s H C cl fp => PE.imp (he _ _ (blk_ok c hc scope s H C cl fp)) (tE_cx (X := X) (Y := X.blk s H scope (compEnvC scope cl C X.env) fp) rfl rfl)) (hs _)
  rw [hown] at h
  exact set_of h (lc_sim (Γ := Γ) (Γ.blk scope) rfl rfl rfl rfl (c.coldv hc) fun σ H Q z => z)
theorem ex_put {call : Nat → List D → Rr} {W : Nat} {cur : Cur} {i : Nat} {ix : Sx} {m : M} {E : En} : ex call W cur (.put i ix m) E = (ev call cur m E).toO fun d E1 => match E1[i]?, sv cur E1 ix with
      | some (some (.lst true xs)), some (.int k) => if d.fz = true ∧ fzL xs = true then (match ixP xs.length k with
        | some j => .nx (E1.set i (some (.lst true (xs.set j d))))
        | none => .bad) else .bad
      | _, _ => .bad := by
  unfold ex R.toO
  cases ev call cur m E <;> rfl
theorem OwnL.set {K : PySem.W.Frag} {F : Hp} : ∀ {xs : List D} {ws : List V} {d : D} {v : V} (j : Nat), OwnL K F xs ws [] → Own K F d v [] → OwnL K F (xs.set j d) (ws.set j v) []
  | [], _, _, _, _, h, _ => by
    obtain ⟨rfl, _⟩ := h
    exact ⟨rfl, rfl⟩
  | x :: xs, _, _, _, 0, h, o => by
    obtain ⟨w, r, L1, L2, rfl, e, h3, h4⟩ := h
    obtain ⟨rfl, rfl⟩ := List.append_eq_nil_iff.mp e.symm
    exact ⟨_, _, [], [], rfl, rfl, o, h4⟩
  | x :: xs, _, _, _, j + 1, h, o => by
    obtain ⟨w, r, L1, L2, rfl, e, h3, h4⟩ := h
    obtain ⟨rfl, rfl⟩ := List.append_eq_nil_iff.mp e.symm
    exact ⟨_, _, [], [], rfl, rfl, h3, OwnL.set j h4 o⟩
/-- x[ix] = e -/
theorem gst_put {i : Nat} {x : Str} {ix e : Expr} {s : Sx} {m : M} {px ps : Pos} (he : GE Γ e m) (hix : GX Γ ix s) (hN : Γ.N[i]? = some x := by rfl) (hv : Vis Γ.sc x := by first | exact Or.inl rfl | exact Or.inr (Or.inl rfl) | exact Or.inr (Or.inr rfl))
    (hs : ∀ (env : PySem.Env) (line : Nat), swapsWithSole [.Subscript (.Name x px) ix ps] e line env = pure false := by intro _ _; rfl) (hw : ∀ env : PySem.Env, swappedStores [.Subscript (.Name x px) ix ps] e env = pure none := by intro _; rfl)
    (ha : ∀ (env : PySem.Env) v, assign (.Subscript (.Name x px) ix ps) env v = (do
      let ov ← holding [v] (eval (.Name x px) env)
      let iv ← holding [v, ov] (eval ix env)
      standAt ps
      holding [v, ov, iv] (setItem ov iv v)
      release [v, ov, iv] []) := by intro _ _; rfl) (hd : (x == ("__debug__" : Str)) = false := by decide) (hcd : (x == ("__classdict__" : Str)) = false := by decide) : GSt Γ (.Assign [.Subscript (.Name x px) ix ps] e pos) (.put i s m) := fun hhv X W c =>
  PS.imp (ps_asg (he X W c) (pg_sub (pe_var (i := i) (by rw [c.n]; exact hN) (by rw [c.sc]; exact hv) hd hcd) (hix X W c) set_list (ha _)) (hs _ _) (hw _) rfl) fun D σ H z => by
  obtain ⟨F, L, E, cur, rl, q⟩ := z
  rw [ex_put] at q
  refine ⟨F, L, E, cur, rl, Os.bind q fun d E1 q1 v H1 F1 L1 L2 s1 o1 o2 => ?_⟩
  split at q1
  · rename_i xs k e1 e2
    split at q1
    · rename_i hf
      split at q1
      · rename_i j ej
        have n := Own.fz_nil hf.1 o2
        subst n
        obtain ⟨u, La, Lb, h1, h2, h3, h4⟩ := o1.take e1
        refine ⟨u, h1, F1, L1, E1, cur, _, rl.on s1 sub_r o1, e2, fun w H2 F2 L3 s2 p2 o3 => ?_⟩
        obtain ⟨a, ws, Lc, rfl, rfl, h5⟩ := h2
        have n := OwnL.fz_nil hf.2 h5
        subst n
        have s1' : Step F L H F1 L1 H1 := s1
        have s3 := (s1'.trans s2).perm h4
        have ha : H2 a = some (.lst ws) := s3.ok.inH (a, .lst ws) List.mem_cons_self
        have ej' : ixN ws.length k = some j := by rw [← h5.length]; exact ej
        refine ⟨a, ws, k, j, rfl, own_int o3, ha, ej', ?_⟩
        have s4 := s3.trans (Step.write s3.ok (.lst (ws.set j v)))
        obtain ⟨L', o7, p7⟩ := (h3.mono s2.ff).fillS (i := i) (d := .lst true (xs.set j d)) (v := .ref a) (M := [(a, .lst (ws.set j v))]) (get_set (List.getElem?_eq_some_iff.mp e1).1) h1 ⟨a, _, [], rfl, rfl, OwnL.set j (h5.mono s2.ff) (o2.mono s2.ff)⟩
        rw [set_set] at o7
        exact q1 σ _ F2 L' (s4.prt p7) o7 (Agr.refl _)
      · exact q1.elim
    · exact q1.elim
  · exact q1.elim
theorem ex_putm {call : Nat → List D → Rr} {W : Nat} {cur : Cur} {i : Nat} {ix : M} {m : M} {E : En} : ex call W cur (.putm i ix m) E = (ev call cur m E).toO fun d E1 => match E1[i]? with
      | some (some _) => (ev call cur ix E1).toO fun z E2 => match z, E2[i]? with
        | .int k, some (some (.lst true xs)) => if d.fz = true ∧ fzL xs = true then (match ixP xs.length k with
          | some j => .nx (E2.set i (some (.lst true (xs.set j d))))
          | none => .bad) else .bad
        | _, _ => .bad
      | _ => .bad := by
  unfold ex R.toO
  cases ev call cur m E with
  | ok d E1 =>
    dsimp only
    cases E1[i]? with
    | none => rfl
    | some o =>
      cases o with
      | none => rfl
      | some d0 =>
        dsimp only
        cases ev call cur ix E1 with
        | ok z E2 =>
          cases z with
          | int k =>
            dsimp only
            cases E2[i]? with
            | none => rfl
            | some o2 =>
              cases o2 with
              | none => rfl
              | some l =>
                cases l with
                | lst b xs => cases b <;> rfl
                | _ => rfl
          | _ => rfl
        | exc c d E2 => rfl
        | bad => rfl
  | exc c d E1 => rfl
  | bad => rfl
/-- x[ix] = e, the index made behind the value -/
theorem gst_putm {i : Nat} {x : Str} {ix e : Expr} {s : M} {m : M} {px ps : Pos} (he : GE Γ e m) (hix : GE Γ ix s) (hN : Γ.N[i]? = some x := by rfl) (hv : Vis Γ.sc x := by first | exact Or.inl rfl | exact Or.inr (Or.inl rfl) | exact Or.inr (Or.inr rfl))
    (hs : ∀ (env : PySem.Env) (line : Nat), swapsWithSole [.Subscript (.Name x px) ix ps] e line env = pure false := by intro _ _; rfl) (hw : ∀ env : PySem.Env, swappedStores [.Subscript (.Name x px) ix ps] e env = pure none := by intro _; rfl)
    (ha : ∀ (env : PySem.Env) v, assign (.Subscript (.Name x px) ix ps) env v = (do
      let ov ← holding [v] (eval (.Name x px) env)
      let iv ← holding [v, ov] (eval ix env)
      standAt ps
      holding [v, ov, iv] (setItem ov iv v)
      release [v, ov, iv] []) := by intro _ _; rfl) (hd : (x == ("__debug__" : Str)) = false := by decide) (hcd : (x == ("__classdict__" : Str)) = false := by decide) : GSt Γ (.Assign [.Subscript (.Name x px) ix ps] e pos) (.putm i s m) := fun hhv X W c =>
  PS.imp (ps_asg (he X W c) (pg_sub (pe_var (i := i) (by rw [c.n]; exact hN) (by rw [c.sc]; exact hv) hd hcd) (hix X W c) set_list (ha _)) (hs _ _) (hw _) rfl) fun D σ H z => by
  obtain ⟨F, L, E, cur, rl, q⟩ := z
  rw [ex_putm] at q
  refine ⟨F, L, E, cur, rl, Os.bind q fun d E1 q1 v H1 F1 L1 L2 s1 o1 o2 => ?_⟩
  split at q1
  · rename_i d0 e1
    obtain ⟨u, La0, h1, _, _⟩ := o1.get e1
    have s1l : Step F L H F1 L1 H1 := s1.sub sub_r
    have q2 := Os.shift s1l (Agr.refl σ) (a1 := []) (a2 := []) (fun j h => h) (fun j h => by cases h) q1
    refine ⟨u, h1, F1, L1, E1, cur, rl.on s1 sub_r o1, Os.bind q2 fun z E2 q3 w H2 F2 M1 M2 s2 o3 o4 => ?_⟩
    split at q3
    · rename_i k xs e2
      split at q3
      · rename_i hf
        split at q3
        · rename_i j ej
          have n := Own.fz_nil hf.1 o2
          subst n
          obtain ⟨u', La, Lb, h1', h2, h3, h4⟩ := o3.take e2
          rw [h1] at h1'
          cases h1'
          obtain ⟨a, ws, Lc, rfl, rfl, h5⟩ := h2
          have n := OwnL.fz_nil hf.2 h5
          subst n
          have s2' : Step F1 L1 H1 F2 M1 H2 := s2.sub sub_r
          have s3 := s2'.perm h4
          have ha : H2 a = some (.lst ws) := s3.ok.inH (a, .lst ws) List.mem_cons_self
          have ej' : ixN ws.length k = some j := by rw [← h5.length]; exact ej
          refine ⟨a, ws, k, j, rfl, own_int o4, ha, ej', ?_⟩
          have s4 := s3.trans (Step.write s3.ok (.lst (ws.set j v)))
          obtain ⟨L', o7, p7⟩ := h3.fillS (i := i) (d := .lst true (xs.set j d)) (v := .ref a) (M := [(a, .lst (ws.set j v))]) (get_set (List.getElem?_eq_some_iff.mp e2).1) h1 ⟨a, _, [], rfl, rfl, OwnL.set j h5 (o2.mono s2'.ff)⟩
          rw [set_set] at o7
          exact q3 σ _ F2 L' (s4.prt p7) o7 (Agr.refl _)
        · exact q3.elim
      · exact q3.elim
    · exact q3.elim
  · exact q1.elim
/-! ### plain statements -/
theorem ex_expr {call : Nat → List D → Rr} {W : Nat} {cur : Cur} {m : M} {E : En} : ex call W cur (.expr m) E = (ev call cur m E).toO fun _ E1 => .nx E1 := by
  unfold ex R.toO
  cases ev call cur m E <;> rfl
theorem gst_expr {e : Expr} {m : M} (he : GE Γ e m) (hs : ∀ (env : PySem.Env) (line : Nat), swapsWith e none line env = pure false := by intro _ _; rfl) : GSt Γ (.Expr e pos) (.expr m) := fun hhv X W c => PS.imp (ps_expr (he X W c) (hs _ _)) fun D σ H z => by
  obtain ⟨F, L, E, cur, rl, q⟩ := z
  rw [ex_expr] at q
  exact ⟨F, L, E, cur, rl, Os.bind q fun d E1 q1 v H1 F1 L1 L2 s1 o1 o2 => q1 σ H1 F1 L1 (s1.sub sub_r) o1 (Agr.refl _)⟩
theorem gst_doc {x j pos'} : GSt Γ (.Expr (.Constant (.str x) j pos) pos') .pass := fun hhv X W c => PS.imp ps_doc fun D σ H z => by
  obtain ⟨F, L, E, cur, rl, q⟩ := z
  exact q σ H F L (Step.refl rl.ok) rl.own (Agr.refl _)
theorem gst_pass : GSt Γ (.Pass pos) .pass := fun hhv X W c => PS.imp ps_pass fun D σ H z => by
  obtain ⟨F, L, E, cur, rl, q⟩ := z
  exact q σ H F L (Step.refl rl.ok) rl.own (Agr.refl _)
theorem gst_brk : GSt Γ (.Break pos) .brk := fun hhv X W c => PS.imp ps_break fun D σ H z => by
  obtain ⟨F, L, E, cur, rl, q⟩ := z
  exact q σ H F L (Step.refl rl.ok) rl.own (Agr.refl _)
theorem gst_cnt : GSt Γ (.Continue pos) .cnt := fun hhv X W c => PS.imp ps_continue fun D σ H z => by
  obtain ⟨F, L, E, cur, rl, q⟩ := z
  exact q σ H F L (Step.refl rl.ok) rl.own (Agr.refl _)
theorem gst_retN : GSt Γ (.Return none pos) .retN := fun hhv X W c => PS.imp ps_retN fun D σ H z => by
  obtain ⟨F, L, E, cur, rl, q⟩ := z
  exact q .non σ H F L [] (Step.refl rl.ok) rl.own non_own (Agr.refl _)
theorem ex_ret {call : Nat → List D → Rr} {W : Nat} {cur : Cur} {m : M} {E : En} : ex call W cur (.ret m) E = (ev call cur m E).toO fun d E1 => .rt d E1 := by
  unfold ex R.toO
  cases ev call cur m E <;> rfl
theorem gst_ret {e : Expr} {m : M} (he : GE Γ e m) : GSt Γ (.Return (some e) pos) (.ret m) := fun hhv X W c => PS.imp (ps_ret (he X W c)) fun D σ H z => by
  obtain ⟨F, L, E, cur, rl, q⟩ := z
  rw [ex_ret] at q
  exact ⟨F, L, E, cur, rl, Os.bind q fun d E1 q1 v H1 F1 L1 L2 s1 o1 o2 => q1 v σ H1 F1 L1 L2 s1 o1 o2 (Agr.refl _)⟩
theorem ex_ifs {call : Nat → List D → Rr} {W : Nat} {cur : Cur} {c : M} {a b : B} {E : En} : ex call W cur (.ifs c a b) E = (ev call cur c E).toO fun d E1 => match d with
    | .bl true => exs call W cur a E1
    | .bl false => exs call W cur b E1
    | _ => .bad := by
  show (match ev call cur c E with
    | R.ok (D.bl true) E1 => exs call W cur a E1
    | R.ok (D.bl false) E1 => exs call W cur b E1
    | R.exc c d E1 => O.exc c d E1
    | _ => O.bad) = _
  cases ev call cur c E with
  | ok d E1 => cases d <;> first | rfl | (rename_i k; cases k <;> rfl)
  | exc c d E1 => rfl
  | bad => rfl
theorem gst_if {t : Expr} {a b : List Stmt} {m : M} {sa sb : B} (ht : GT Γ t m) (ha : GB Γ a sa) (hb : GB Γ b sb) : GSt Γ (.If t a b pos) (.ifs m sa sb) := fun hhv X W c => PS.imp (ps_if (ht X W c) (ha (hhv.mono fun j h => List.mem_append_left _ h) X W c) (hb (hhv.mono fun j h => List.mem_append_right _ h) X W c)) fun D σ H z => by
  obtain ⟨F, L, E, cur, rl, q⟩ := z
  rw [ex_ifs] at q
  refine ⟨F, L, E, cur, rl, Os.bind q fun d E1 q1 v H1 F1 L1 L2 s1 o1 o2 => ?_⟩
  split at q1
  · refine ⟨true, bl_inv o2, iteT ?_⟩
    exact ⟨F1, L1, E1, cur, rl.on s1 sub_r o1, q1.shift (s1.sub sub_r) (Agr.refl _) (fun j hj => hj) (fun j hj => List.mem_append_left _ hj)⟩
  · refine ⟨false, bl_inv o2, iteF ?_⟩
    exact ⟨F1, L1, E1, cur, rl.on s1 sub_r o1, q1.shift (s1.sub sub_r) (Agr.refl _) (fun j hj => hj) (fun j hj => List.mem_append_right _ hj)⟩
  · exact q1.elim
/-! ### loops -/
/-- a turn's outcome, as the loop takes it -/
def turnO (o : O) (f : En → O) : O := match o with
  | .nx E2 => f E2
  | .cnt E2 => f E2
  | .brk E2 => .nx E2
  | o => o
/-- from the loop's wish to the body's -/
theorem turn_of {X : Cx} {W : WX} {σ σ2 : L2.St} {a a2 : List Nat} {F F2 : Hp} {L La B : Fp} {H H2 : Hp} {o : O} {f : En → O} {D : Ends} {N : L2.St → Hp → Prop} (s : Step F L H F2 (La ++ B) H2) (g : Agr a σ σ2) (ha : ∀ j ∈ a2, j ∈ a) (h : Os Γ X W σ a F L H (turnO o f) D)
    (hN : ∀ E2, Os Γ X W σ a F L H (f E2) D → ∀ σ' H' F' L', Step F L H F' (L' ++ B) H' → Same F2 F' → OwnE X.K F' E2 σ' L' → Agr a σ σ' → N σ' H') : Os Γ X W σ2 a2 F2 La H2 o { D with nx := N, ct := N, bk := D.nx } := by
  have gg : ∀ {σ'}, Agr a2 σ2 σ' → Agr a σ σ' := fun k => g.trans (k.mono ha)
  cases o with
  | nx E => exact fun σ' H' F' L' t o k => hN E h σ' H' F' L' (s.frame t) t.ff o (gg k)
  | cnt E => exact fun σ' H' F' L' t o k => hN E h σ' H' F' L' (s.frame t) t.ff o (gg k)
  | brk E => exact fun σ' H' F' L' t o k => h σ' H' F' L' ((s.frame t).sub sub_l) o (gg k)
  | rt d E => exact fun v σ' H' F' L1 La t o q k => h v σ' H' F' L1 La ((s.frame t).sub sub_l) o q (gg k)
  | exc c d E => exact fun cls dd σ' H' F' L' t o q k => h cls dd σ' H' F' L' ((s.frame t).sub sub_l) o q (gg k)
  | bad => exact h
theorem forGo_cons {t : Tg} {body : En → O} {d : D} {ds : List D} {E : En} : forGo t body (d :: ds) E = (match t.bind d E with
    | some E1 => turnO (body E1) (forGo t body ds)
    | none => .bad) := by
  show (match t.bind d E with
    | some E1 => (match body E1 with
      | O.nx E2 => forGo t body ds E2
      | O.cnt E2 => forGo t body ds E2
      | O.brk E2 => O.nx E2
      | o => o)
    | none => O.bad) = _
  cases t.bind d E with
  | none => rfl
  | some E1 =>
    show (match body E1 with
      | O.nx E2 => forGo t body ds E2
      | O.cnt E2 => forGo t body ds E2
      | O.brk E2 => O.nx E2
      | o => o) = turnO (body E1) (forGo t body ds)
    cases body E1 <;> rfl
theorem ex_fors {call : Nat → List D → Rr} {W : Nat} {cur : Cur} {t : Tg} {src : Src} {b : B} {E : En} : ex call W cur (.fors t src b) E = (evSrc call cur src E).toO fun items E1 => forGo t (exs call W cur b) items E1 := by
  unfold ex R.toO
  cases evSrc call cur src E <;> rfl
theorem gst_for {tg iter : Expr} {body : List Stmt} {t : Tg} {src : Src} {b : B} (hc : Γ.calm = true) (hi : GS Γ tg iter src) (ht : GTg Γ tg t) (hb : GB Γ body b) (hs : ∀ (env : PySem.Env) x, foldedSetIterable iter env x = pure x := by intro _ _; rfl) : GSt Γ (.For tg iter body [] pos) (.fors t src b) := fun hhv X W c =>
  PS.imp (ps_for c.po (c.calm hc) (hi X W c) (ht X W c) (hb (hhv.mono fun j h => by first | exact List.mem_append_right _ h | exact h) X W c) (hs := hs _)) fun D σ H z => by
  obtain ⟨F, L, E, cur, rl, q⟩ := z
  rw [ex_fors] at q
  refine ⟨F, L, E, cur, rl, Os.bind q fun ds E1 q1 p H1 F1 L1 Ls s1 o1 o2 => ?_⟩
  obtain ⟨J, us⟩ := p
  have wk : WkD X.K J F1 Ls ds := o2
  have ml : ∀ j ∈ t.asg, j ∈ t.asg ++ b.asg := fun j hj => List.mem_append_left _ hj
  have mr : ∀ j ∈ b.asg, j ∈ t.asg ++ b.asg := fun j hj => List.mem_append_right _ hj
  refine ⟨fun i m σc Hc => ∃ F' Le Ec, m = ds.length - i ∧ i ≤ ds.length ∧ Step F L H F' (Le ++ Ls) Hc ∧ Same F1 F' ∧ OwnE X.K F' Ec σc Le ∧ Agr (t.asg ++ b.asg) σ σc ∧ Os Γ X W σ (t.asg ++ b.asg) F L H (forGo t (exs Γ.call Γ.W cur b) (ds.drop i) Ec) D,
    ⟨ds.length, F1, L1, E1, rfl, Nat.zero_le _, s1.prt Prt.swap, fun _ _ z => z, o1, Agr.refl _, q1⟩, ?_⟩
  rintro i m σc Hc ⟨F', Le, Ec, rfl, hi, st, sf, oe, ag, ke⟩
  have iLs : InH Ls Hc := st.ok.right.inH
  have wk' := wk.mono sf
  by_cases hlt : i < ds.length
  · refine .inr ⟨wk'.go i Hc st.ok.fH iLs (by omega), _, fun σ' H' hn => ⟨ds.length - (i + 1), by omega, hn⟩, fun x H' y => ?_⟩
    obtain ⟨Fn, d, sn, hd, ov⟩ := wk'.yld i F' _ Hc x H' (fun _ _ z => z) st.ok iLs hlt y
    have stn := st.trans sn
    have hd2 : ds[i] = d := by
      rw [List.getElem?_eq_getElem hlt] at hd
      exact Option.some.inj hd
    rw [List.drop_eq_getElem_cons hlt, forGo_cons, hd2] at ke
    split at ke
    · rename_i E0 eb
      refine ⟨Fn, Le, [], d, Ec, E0, stn.ok.left, oe.mono sn.ff, ov, eb, fun σ2 L2 o3 p3 ag2 => ?_⟩
      have st2 : Step F L H Fn (L2 ++ Ls) H' := stn.prt (Prt.app p3 (Prt.refl _))
      refine ⟨Fn, L2, E0, cur, ⟨st2.ok.left, o3, rl.cur.mono stn.ff, fun P h => stn.tab P (rl.tab P h), fun i a h => by rw [c.coldv hc] at h; cases h⟩, turn_of st2 (ag.trans (ag2.mono ml)) mr ke fun E2 k σ' H'' F'' L' s sm o g => ?_⟩
      exact ⟨F'', L', E2, rfl, hlt, s, (sf.trans sn.ff).trans sm, o, g, k⟩
    · exact ke.elim
  · have hi' : i = ds.length := by omega
    subst hi'
    rw [List.drop_length] at ke
    refine .inl ⟨wk'.stop _ Hc st.ok.fH iLs (by omega), ?_⟩
    exact ke σc Hc F' Le (st.sub sub_l) oe ag
theorem whGo_succ {c : En → R D} {body : En → O} {n : Nat} {E : En} : whGo c body (n + 1) E = (c E).toO fun d E1 => match d with
    | .bl true => turnO (body E1) (whGo c body n)
    | .bl false => .nx E1
    | _ => .bad := by
  show (match c E with
    | R.ok (D.bl true) E1 => (match body E1 with
      | O.nx E2 => whGo c body n E2
      | O.cnt E2 => whGo c body n E2
      | O.brk E2 => O.nx E2
      | o => o)
    | R.ok (D.bl false) E1 => O.nx E1
    | R.exc c d E1 => O.exc c d E1
    | _ => O.bad) = _
  cases c E with
  | ok d E1 =>
    cases d with
    | bl k =>
      cases k with
      | false => rfl
      | true =>
        show (match body E1 with
          | O.nx E2 => whGo c body n E2
          | O.cnt E2 => whGo c body n E2
          | O.brk E2 => O.nx E2
          | o => o) = turnO (body E1) (whGo c body n)
        cases body E1 <;> rfl
    | _ => rfl
  | exc c d E1 => rfl
  | bad => rfl
theorem gst_while {t : Expr} {body : List Stmt} {m : M} {b : B} (ht : GT Γ t m) (hb : GB Γ body b) : GSt Γ (.While t body [] pos) (.whl m b) := fun hhv X W c => PS.imp (ps_while c.po (ht X W c) (hb (hhv.mono fun j h => by first | exact List.mem_append_right _ h | exact h) X W c)) fun D σ H z => by
  obtain ⟨F, L, E, cur, rl, q⟩ := z
  have q : Os Γ X W σ b.asg F L H (whGo (ev Γ.call cur m) (exs Γ.call Γ.W cur b) Γ.W E) D := q
  refine ⟨fun n σc Hc => ∃ F' Le Ec, Rel Γ X cur Ec F' Le σc Hc ∧ Os Γ X W σc b.asg F' Le Hc (whGo (ev Γ.call cur m) (exs Γ.call Γ.W cur b) n Ec) D, ⟨Γ.W, F, L, E, rl, q⟩, ?_⟩
  rintro n σc Hc ⟨F', Le, Ec, rc, ke⟩
  cases n with
  | zero => exact ke.elim
  | succ n =>
    rw [whGo_succ] at ke
    refine ⟨F', Le, Ec, cur, rc, Os.bind ke fun d E1 q1 v H1 F1 L1 L2 s1 o1 o2 => ?_⟩
    split at q1
    · refine ⟨true, bl_inv o2, iteT ?_⟩
      refine ⟨_, fun σ' H' hn => ⟨n, Nat.lt_succ_self n, hn⟩, F1, L1, E1, cur, rc.on s1 sub_r o1, ?_⟩
      have s1' : Step F' Le Hc F1 (L1 ++ []) H1 := by rw [List.append_nil]; exact s1.sub sub_r
      refine turn_of s1' (Agr.refl _) (fun j hj => hj) q1 fun E2 k σ' H'' F'' L' s sm o g => ?_
      rw [List.append_nil] at s
      exact ⟨F'', L', E2, ⟨s.ok, o, rc.cur.mono s.ff, fun P h => s.tab P (rc.tab P h), fun i a h => by rw [g i (hhv i a h)]; exact rc.hv i a h⟩, Os.shift s g (fun j hj => hj) (fun j hj => hj) k⟩
    · refine ⟨false, bl_inv o2, iteF ?_⟩
      exact q1 σc H1 F1 L1 (s1.sub sub_r) o1 (Agr.refl _)
    · exact q1.elim
/-! ### over what stands at a name -/
theorem forLive_succ {t : Tg} {body : En → O} {i : Nat} {k : Kd} {n j : Nat} {E : En} {l : D} {xs : List D} (e : E[i]? = some (some l)) (hk : l.kd = k) (hx : l.items = some xs) : forLive t body i k (n + 1) j E = (match xs[j]? with
    | none => .nx E
    | some d => if d.fz = true then (match t.bind d E with
      | some E1 => turnO (body E1) (forLive t body i k n (j + 1))
      | none => .bad) else .bad) := by
  show (match E[i]? with
    | some (some l) => if l.kd = k then (match l.items with
      | some xs => (match xs[j]? with
        | none => O.nx E
        | some d => if d.fz = true then (match t.bind d E with
          | some E1 => (match body E1 with
            | O.nx E2 => forLive t body i k n (j + 1) E2
            | O.cnt E2 => forLive t body i k n (j + 1) E2
            | O.brk E2 => O.nx E2
            | o => o)
          | none => O.bad) else O.bad)
      | none => O.bad) else O.bad
    | _ => O.bad) = _
  rw [e]
  show (if l.kd = k then _ else O.bad) = _
  rw [if_pos hk, hx]
  show (match xs[j]? with
        | none => O.nx E
        | some d => if d.fz = true then (match t.bind d E with
          | some E1 => (match body E1 with
            | O.nx E2 => forLive t body i k n (j + 1) E2
            | O.cnt E2 => forLive t body i k n (j + 1) E2
            | O.brk E2 => O.nx E2
            | o => o)
          | none => O.bad) else O.bad) = _
  cases xs[j]? with
  | none => rfl
  | some d =>
    show (if d.fz = true then _ else O.bad) = (if d.fz = true then _ else O.bad)
    by_cases hf : d.fz = true
    · rw [if_pos hf, if_pos hf]
      cases t.bind d E with
      | none => rfl
      | some E1 =>
        show (match body E1 with
            | O.nx E2 => forLive t body i k n (j + 1) E2
            | O.cnt E2 => forLive t body i k n (j + 1) E2
            | O.brk E2 => O.nx E2
            | o => o) = turnO (body E1) (forLive t body i k n (j + 1))
        cases body E1 <;> rfl
    · rw [if_neg hf, if_neg hf]
theorem forLive_inv {t : Tg} {body : En → O} {i : Nat} {k : Kd} {n j : Nat} {E : En} : forLive t body i k (n + 1) j E = .bad ∨ ∃ l xs, E[i]? = some (some l) ∧ l.kd = k ∧ l.items = some xs := by
  cases e : E[i]? with
  | none => left; unfold forLive; rw [e]
  | some o =>
    cases o with
    | none => left; unfold forLive; rw [e]
    | some l =>
      by_cases hk : l.kd = k
      · cases hx : l.items with
        | none =>
          left
          unfold forLive
          rw [e]
          show (if l.kd = k then _ else O.bad) = _
          rw [if_pos hk, hx]
        | some xs => exact .inr ⟨l, xs, rfl, hk, hx⟩
      · left
        unfold forLive
        rw [e]
        show (if l.kd = k then _ else O.bad) = _
        rw [if_neg hk]
/-- the object at a sequence's address, as it is read -/
theorem seq_at {K : PySem.W.Frag} {F H : Hp} {l : D} {v : V} {L : Fp} {xs : List D} (o : Own K F l v L) (fH : Same F H) (iH : InH L H) (hx : l.items = some xs) : ∃ a us L', v = .ref a ∧ OwnL K F xs us L' ∧ List.Sublist L' L ∧ ((l.kd = .lst ∧ SqL K H a us) ∨ (l.kd = .tup ∧ SqT K H a us)) := by
  cases l with
  | tup ds =>
    cases hx
    obtain ⟨_, a, us, rfl, h3, h4⟩ := o
    exact ⟨a, us, [], rfl, h4, List.nil_sublist _, .inr ⟨rfl, SqT_mono fH h3⟩⟩
  | scr ds =>
    cases hx
    obtain ⟨_, a, us, rfl, h3, h4⟩ := o
    exact ⟨a, us, [], rfl, h4, List.nil_sublist _, .inl ⟨rfl, fH.seq h3⟩⟩
  | lst b ds =>
    cases hx
    obtain ⟨a, us, L', rfl, h3, h4, h5⟩ := list_read o fH iH
    exact ⟨a, us, L', rfl, h4, h5, .inl ⟨rfl, SqL.of h3⟩⟩
  | _ => cases hx
theorem gst_forl {tg : Expr} {i : Nat} {x : Str} {body : List Stmt} {t : Tg} {b : B} (hc : Γ.calm = true) (ht : GTg Γ tg t) (hb : GB Γ body b) (hN : Γ.N[i]? = some x := by rfl) (hv : Vis Γ.sc x := by first | exact Or.inl rfl | exact Or.inr (Or.inl rfl) | exact Or.inr (Or.inr rfl)) (hd : (x == ("__debug__" : Str)) = false := by decide) (hcd : (x == ("__classdict__" : Str)) = false := by decide) :
    GSt Γ (.For tg (.Name x p) body [] pos) (.forl t i b) := fun hhv X W c =>
  PS.imp (ps_for c.po (c.calm hc) (PI.or (pi_list (pe_var (i := i) (by rw [c.n]; exact hN) (by rw [c.sc]; exact hv) hd hcd)) (pi_tup (pe_var (i := i) (by rw [c.n]; exact hN) (by rw [c.sc]; exact hv) hd hcd))) (ht X W c) (hb (hhv.mono fun j h => by first | exact List.mem_append_right _ h | exact h) X W c)) fun D σ H z => by
  obtain ⟨F, L, E, cur, rl, q⟩ := z
  have q : Os Γ X W σ (t.asg ++ b.asg) F L H (if i ∈ t.asg ++ b.asg then O.bad else (match E[i]? with
    | some (some l) => forLive t (exs Γ.call Γ.W cur b) i l.kd Γ.W 0 E
    | _ => O.bad)) D := q
  split at q
  · exact q.elim
  · rename_i hni
    have ml : ∀ j ∈ t.asg, j ∈ t.asg ++ b.asg := fun j hj => List.mem_append_left _ hj
    have mr : ∀ j ∈ b.asg, j ∈ t.asg ++ b.asg := fun j hj => List.mem_append_right _ hj
    split at q
    · rename_i l e
      -- what the loop wishes, once its iterator J (over the object at a) is there
      have main : ∀ (a : Addr) (J : It) (Sq : Hp → List V → Prop), σ[i]? = some (some (.ref a)) → (∀ l' F' H' L' xs, l'.kd = l.kd → Own X.K F' l' (.ref a) L' → Same F' H' → InH L' H' → l'.items = some xs → ∃ us M, OwnL X.K F' xs us M ∧ List.Sublist M L' ∧ Sq H' us) →
          (∀ j H' us v, Sq H' us → us[j]? = some v → J.go j H') → (∀ j H' us, Sq H' us → us.length ≤ j → J.stop j H') → (∀ j H' us v H'', Sq H' us → J.yld j H' v H'' → H'' = H' ∧ us[j]? = some v) →
          ∃ W' : Nat → Nat → L2.St → Hp → Prop, (∃ m, W' 0 m σ H) ∧ ∀ i m σ H, W' i m σ H → (J.stop i H ∧ D.nx σ H) ∨ (J.go i H ∧ ∃ N : L2.St → Hp → Prop, (∀ σ' H', N σ' H' → ∃ m', m' < m ∧ W' (i + 1) m' σ' H') ∧ ∀ x H', J.yld i H x H' → tTg X t x σ H' fun σ2 H2 => tBl Γ X W b { D with nx := N, ct := N, bk := D.nx } σ2 H2) := by
        intro a J Sq hσ rd go stop yld
        refine ⟨fun j n σc Hc => ∃ F' Le Ec, Rel Γ X cur Ec F' Le σc Hc ∧ σc[i]? = some (some (.ref a)) ∧ Os Γ X W σc (t.asg ++ b.asg) F' Le Hc (forLive t (exs Γ.call Γ.W cur b) i l.kd n j Ec) D, ⟨Γ.W, F, L, E, rl, hσ, q⟩, ?_⟩
        rintro j n σc Hc ⟨F', Le, Ec, rc, hσc, ke⟩
        cases n with
        | zero => exact ke.elim
        | succ n =>
          rcases forLive_inv (t := t) (body := exs Γ.call Γ.W cur b) (i := i) (k := l.kd) (n := n) (j := j) (E := Ec) with eb | ⟨l', xs, e1, hk, hx⟩
          · rw [eb] at ke
            exact ke.elim
          · rw [forLive_succ e1 hk hx] at ke
            obtain ⟨v, L1, h1, h2, h3⟩ := rc.own.get e1
            rw [hσc] at h1
            cases h1
            obtain ⟨us, M, h4, h5, h6⟩ := rd l' F' Hc L1 xs hk h3 rc.ok.fH (rc.ok.inH.of (sub_of h2)) hx
            split at ke
            · rename_i ej
              refine .inl ⟨stop j Hc us h6 ?_, ke σc Hc F' Le (Step.refl rc.ok) rc.own (Agr.refl _)⟩
              rw [← h4.length]
              exact List.getElem?_eq_none_iff.mp ej
            · rename_i d ej
              split at ke
              · rename_i hf
                obtain ⟨w, M1, h7, h8, h9⟩ := h4.get ej
                have n1 := Own.fz_nil hf h9
                subst n1
                refine .inr ⟨go j Hc us w h6 h7, _, fun σ' H' hn => ⟨n, Nat.lt_succ_self n, hn⟩, fun y H' hy => ?_⟩
                obtain ⟨rfl, hy2⟩ := yld j Hc us y H' h6 hy
                rw [h7] at hy2
                cases hy2
                split at ke
                · rename_i E0 eb
                  refine ⟨F', Le, [], d, Ec, E0, rc.ok, rc.own, h9, eb, fun σ2 La o3 p3 ag2 => ?_⟩
                  have st2 : Step F' Le H' F' (La ++ []) H' := by rw [List.append_nil]; exact (Step.refl rc.ok).prt p3
                  refine ⟨F', La, E0, cur, ⟨st2.ok.left, o3, rc.cur, rc.tab, fun i a h => by rw [c.coldv hc] at h; cases h⟩, turn_of st2 (ag2.mono ml) mr ke fun E2 k σ' H'' F'' L' s sm o g => ?_⟩
                  rw [List.append_nil] at s
                  refine ⟨F'', L', E2, ⟨s.ok, o, rc.cur.mono s.ff, fun P h => s.tab P (rc.tab P h), fun i a h => by rw [g i (hhv i a h)]; exact rc.hv i a h⟩, by rw [g i hni]; exact hσc, Os.shift s g (fun j hj => hj) (fun j hj => hj) k⟩
                · exact ke.elim
              · exact ke.elim
      obtain ⟨v, L1, h1, h2, h3⟩ := rl.own.get e
      cases hW : Γ.W with
      | zero =>
        rw [hW] at q
        exact q.elim
      | succ n =>
        rcases forLive_inv (t := t) (body := exs Γ.call Γ.W cur b) (i := i) (k := l.kd) (n := n) (j := 0) (E := E) with eb | ⟨l', xs, e1, hk, hx⟩
        · rw [hW] at q eb
          rw [eb] at q
          exact q.elim
        · rw [e] at e1
          cases e1
          obtain ⟨a, us, L', rfl, h4, h5, h6⟩ := seq_at h3 rl.ok.fH (rl.ok.inH.of (sub_of h2)) hx
          rcases h6 with ⟨k1, h6⟩ | ⟨k1, h6⟩
          · refine .inl ⟨.ref a, h1, a, rfl, ⟨us, h6⟩, main a (Itl X.K a) (fun H' us => SqL X.K H' a us) h1 (fun l' F' H' L' xs hk o fH iH hx => ?_) (fun j H' us v s e => ⟨us, v, s, e⟩) (fun j H' us s e => ⟨us, s, e⟩) (fun j H' us v H'' s y => ⟨y.1, y.2 us s⟩)⟩
            obtain ⟨a', us', M, e', h7, h8, h9⟩ := seq_at o fH iH hx
            cases e'
            rcases h9 with ⟨_, h9⟩ | ⟨k2, _⟩
            · exact ⟨us', M, h7, h8, h9⟩
            · rw [hk, k1] at k2; cases k2
          · refine .inr ⟨.ref a, h1, a, rfl, ⟨us, h6⟩, main a (Itt X.K a) (fun H' us => SqT X.K H' a us) h1 (fun l' F' H' L' xs hk o fH iH hx => ?_) (fun j H' us v s e => ⟨us, v, s, e⟩) (fun j H' us s e => ⟨us, s, e⟩) (fun j H' us v H'' s y => ⟨y.1, y.2 us s⟩)⟩
            obtain ⟨a', us', M, e', h7, h8, h9⟩ := seq_at o fH iH hx
            cases e'
            rcases h9 with ⟨k2, _⟩ | ⟨_, h9⟩
            · rw [hk, k1] at k2; cases k2
            · exact ⟨us', M, h7, h8, h9⟩
    · exact q.elim
end
end VM

/-! Part N: raise, try. -/
namespace VM
open PySem PySem.Spec L2

section
variable {Γ : Ctx} {pos p p2 apos : Pos}
theorem ex_raise1 {call : Nat → List D → Rr} {W : Nat} {cur : Cur} {c : Nat} {m : M} {E : En} : ex call W cur (.raise c (.cons m .nil)) E = (ev call cur m E).toO fun d E1 => .exc c d.frz E1 := by
  show (match evs call cur (.cons m .nil) E with
    | R.ok [] E1 => O.exc c D.non E1
    | R.ok [d] E1 => O.exc c d.frz E1
    | R.exc c d E1 => O.exc c d E1
    | _ => O.bad) = _
  rw [evs_cons]
  cases ev call cur m E <;> rfl
theorem del_upd {H1 : Hp} {a dx : Addr} {u1 u2 u3 o : HO} (ha : H1 a = none) (ne : dx ≠ a) : upd (del (upd (upd (upd H1 a u1) dx u2) a u3) a) dx o = upd H1 dx o := by
  funext b
  by_cases hb : b = dx
  · subst hb
    rw [upd_same, upd_same]
  · rw [upd_ne hb, upd_ne hb]
    by_cases hba : b = a
    · subst hba
      rw [del_same, ha]
    · rw [del_ne hba, upd_ne hba, upd_ne hb, upd_ne hba]
/-- the error's value, kept in its dict -/
theorem exc_made {X : Cx} {W : WX} {σ : L2.St} {F F1 : Hp} {L L1 L2 : Fp} {H H1 : Hp} {c : Nat} {x : Str} {C : Addr} {d : D} {v : V} {E1 : En} {asg : List Nat} {D' : Ends} (hx : Γ.enm c = some x) (ec : ErrC X x C) (s1 : Step F L H F1 (L2 ++ L1) H1) (o1 : OwnE X.K F1 E1 σ L1) (o2 : Own X.K F1 d v L2) (q : Os Γ X W σ asg F L H (.exc c d.frz E1) D') {dx : Addr} (hdx : H1 dx = none) : W (.ref C) (some dx) σ (upd H1 dx (.xd [(("value" : Str), v)])) := by
  have s2 := Step.freeze s1.ok
  have o3 := Own.frz s2.ff d v L2 (addF_in (ND.append.mp s1.ok.nd).1) o2
  have s3 := Step.newFrozen s2.ok (.xd [(("value" : Str), v)]) hdx
  exact q (.ref C) (some dx) σ _ _ L1 ((s1.trans s2).trans s3) ((o1.mono s2.ff).mono s3.ff) ⟨x, C, dx, v, hx, ec.g, rfl, rfl, upd_same, o3.mono s3.ff⟩ (Agr.refl _)
theorem gst_raise1 {c : Nat} {x : Str} {e : Expr} {m : M} {p3 : Pos} (hc : Γ.calm = true) (he : GE Γ e m) (hx : Γ.enm c = some x := by rfl) (hg : Glb Γ x := by rfl) (ns : NS e := by intro _ _; rfl) (hdb : (x == ("__debug__" : Str)) = false := by decide) :
    GSt Γ (.Raise (some (.Call (.Name x p) [e] [] p2)) none p3) (.raise c (.cons m .nil)) := fun hhv X W c' => by
  obtain ⟨C, ec⟩ := c'.errs c x hx
  obtain ⟨fI, fd, ps, i1, i2, i3, i4, _⟩ := ec.ini
  refine PS.imp (ps_raise (c'.calm hc) c'.tk (pmk_oex ec.c i1 i2 i3 (c'.rm2 hc) i4 .nil pass0 (gl_of c' hg) ec.g (pa_cons (he X W c') pa_nil (ns _ _)) hdb (ns _ _))) fun D σ H z => ?_
  obtain ⟨F, L, E, cur, rl, q⟩ := z
  rw [ex_raise1] at q
  refine ⟨F, L, E, cur, rl, Os.bind q fun d E1 q1 v H1 F1 L1 L2 s1 o1 o2 => ?_⟩
  refine ⟨by show 1 ≤ 1000; decide, fun a ha => ⟨a, C, v, rfl, ec.c, ec.no, upd_same, fun dx hdx ne => ⟨rfl, dx, [(("value" : Str), v)], upd_same, ?_, ?_, ?_⟩⟩⟩
  · rw [upd_ne ne, upd_same]
  · rw [upd_ne ne] at hdx
    exact hdx
  · rw [del_upd ha ne]
    rw [upd_ne ne] at hdx
    exact exc_made hx ec s1 o1 o2 q1 hdx
/-! ### try .. except X as n -/
/-- within the suite of an except clause -/
def Ctx.hot (Γ : Ctx) (cls : Value) (d : Option Addr) (i : Nat) (a : Addr) : Ctx := { Γ with calm := false, cu := some (cls, d), hv := some (i, a) }
theorem tr_ok {X : Cx} {W : WX} (c : CtxOk Γ X W) {pn : List (Addr × Obj)} {xe : Value → Shared → Prop} {W' : WX} (tk : Takes (X.tr pn xe) W') (po : PassesOwn (model X.prog X.w) X.A X.env xe) (hc : Γ.calm = true) : CtxOk Γ (X.tr pn xe) W' where
  n := c.n
  nd := c.nd
  sc := c.sc
  calm := c.calm
  tk := tk
  po := po
  rm1 := c.rm1
  rm2 := c.rm2
  un := c.un
  fns := c.fns
  gd := c.gd
  cla := c.cla
  fat := c.fat
  mth := c.mth
  free := c.free
  bd := c.bd
  gl := c.gl
  errs := fun k x h => by
    obtain ⟨C, e⟩ := c.errs k x h
    exact ⟨C, e.g, e.ga, e.c, e.no, e.xf, e.ini, e.is⟩
  exms := c.exms
  cold := c.cold
  coldv := c.coldv
  hot := fun cls d h => by
    rw [c.cold hc] at h
    cases h
theorem suite_ok {X : Cx} {W : WX} (c : CtxOk Γ X W) {a : Addr} {oe : Obj} {cls : Value} {d : Option Addr} {i : Nat} {pn : List (Addr × Obj)} (hz : Zc cls d oe) (hf : ∃ vs, oe.data = .fields vs) : CtxOk (Γ.hot cls d i a) (X.suite a ((a, oe) :: pn)) W0 where
  n := c.n
  nd := c.nd
  sc := c.sc
  calm := fun h => by cases h
  tk := takes0
  po := PassesOwn.never
  rm1 := fun h => by cases h
  rm2 := fun h => by cases h
  un := c.un
  fns := c.fns
  gd := c.gd
  cla := c.cla
  fat := c.fat
  mth := c.mth
  free := c.free
  bd := c.bd
  gl := c.gl
  errs := fun k x h => by
    obtain ⟨C, e⟩ := c.errs k x h
    exact ⟨C, e.g, e.ga, e.c, e.no, e.xf, e.ini, e.is⟩
  exms := c.exms
  cold := fun h => by cases h
  coldv := fun h => by cases h
  hot := fun cls' d' h => by
    have h : some (cls, d) = some (cls', d') := h
    cases h
    exact ⟨X, a, oe, pn, rfl, hz, hf, i, rfl⟩
theorem tBl_cx {X Y : Cx} (hK : Y.K = X.K) (hm : Y.mg = X.mg) {W : WX} {b : B} (D : Ends) (σ : L2.St) (H : Hp) (h : tBl Γ X W b D σ H) : tBl Γ Y W b D σ H := by
  obtain ⟨F, L, E, cur, rl, q⟩ := h
  refine ⟨F, L, E, cur, rl.cx hK hm, ?_⟩
  cases e : exs Γ.call Γ.W cur b E with
  | nx E' => rw [e] at q; exact fun σ' H' F' L' s o g => q σ' H' F' L' s (by rw [← hK]; exact o) g
  | brk E' => rw [e] at q; exact fun σ' H' F' L' s o g => q σ' H' F' L' s (by rw [← hK]; exact o) g
  | cnt E' => rw [e] at q; exact fun σ' H' F' L' s o g => q σ' H' F' L' s (by rw [← hK]; exact o) g
  | rt d E' => rw [e] at q; exact fun v σ' H' F' L1 L2 s o o2 g => q v σ' H' F' L1 L2 s (by rw [← hK]; exact o) (by rw [← hK]; exact o2) g
  | exc c d E' => rw [e] at q; exact fun cls dd σ' H' F' L' s o o2 g => q cls dd σ' H' F' L' s (by rw [← hK]; exact o) (by rw [← hK, ← hm]; exact o2) g
  | bad => rw [e] at q; exact q
theorem gst_try {body : List Stmt} {b₀ : Stmt} {suite : List Stmt} {x n : Str} {i : Nat} {c : Nat} {sb sh : B} {np pos' : Pos} (hc : Γ.calm = true) (hbd : Γ.body = true) (hb : GB Γ body sb) (hh : ∀ cls d a, GB (Γ.hot cls d i a) (b₀ :: suite) sh) (hi : i ∉ sh.asg) (hx : Γ.enm c = some x := by rfl) (hN : Γ.N[i]? = some n := by rfl) (hl : Γ.sc.names.lookup n = some .local := by rfl) (hg : Glb Γ x := by rfl) (hdb : (x == ("__debug__" : Str)) = false := by decide) :
    GSt Γ (.Try body [.ExceptHandler (some (.Name x np)) (some n) (b₀ :: suite) pos'] [] [] pos) (.tri sb c i sh) := fun hhv X W c' => by
  obtain ⟨C, ec⟩ := c'.errs c x hx
  obtain ⟨bs, bf, bx, _⟩ := c'.bd hbd
  refine PS.imp (ps_try_as (i := i) (tb := fun W => tBl Γ X W sb) (ts := fun a cls d => tBl (Γ.hot cls d i a) X W0 sh) bs bf c'.nd (by rw [c'.n]; exact hN) (gl_of c' hl) ⟨gl_of c' hg, hdb, .inl ec.g⟩ c'.tk
    (fun W1 pn xe tk po => PSs.imp (hb (fun j b h => by rw [c'.coldv hc] at h; cases h) _ _ (tr_ok c' tk po hc)) (tBl_cx (X := X) (Y := X.tr pn xe) rfl rfl))
    (fun a oe cls d pn hz hf => PSs.imp (hh cls d a (fun j b h => by cases h; exact hi) _ _ (suite_ok c' hz hf)) (tBl_cx (X := X) (Y := X.suite a ((a, oe) :: pn)) rfl rfl))) fun D σ H z => ?_
  obtain ⟨F, L, E, cur, rl, q⟩ := z
  have q : Os Γ X W σ (i :: (sb.asg ++ sh.asg)) F L H (match exs Γ.call Γ.W cur sb E with
    | .exc c' d E1 => if errSub c' c = true then (if E1.length ≤ i then O.bad else match exs Γ.call Γ.W (some (c', d)) sh (E1.set i none) with
      | .nx E2 => O.nx (E2.set i none)
      | .brk E2 => O.brk (E2.set i none)
      | .cnt E2 => O.cnt (E2.set i none)
      | .rt d2 E2 => O.rt d2 E2
      | _ => .bad) else .exc c' d E1
    | o => o) D := q
  have ml : ∀ j ∈ sb.asg, j ∈ i :: (sb.asg ++ sh.asg) := fun j hj => List.mem_cons_of_mem _ (List.mem_append_left _ hj)
  have mr : ∀ j ∈ sh.asg, j ∈ i :: (sb.asg ++ sh.asg) := fun j hj => List.mem_cons_of_mem _ (List.mem_append_right _ hj)
  have mi : ∀ j ∈ [i], j ∈ i :: (sb.asg ++ sh.asg) := fun j hj => by rw [List.mem_singleton.mp hj]; exact List.mem_cons_self
  refine ⟨F, L, E, cur, rl, ?_⟩
  cases e : exs Γ.call Γ.W cur sb E with
  | nx E' => rw [e] at q; exact fun σ' H' F' L' s o g => q σ' H' F' L' s o (g.mono ml)
  | brk E' => rw [e] at q; exact fun σ' H' F' L' s o g => q σ' H' F' L' s o (g.mono ml)
  | cnt E' => rw [e] at q; exact fun σ' H' F' L' s o g => q σ' H' F' L' s o (g.mono ml)
  | rt d E' => rw [e] at q; exact fun v σ' H' F' L1 L2 s o o2 g => q v σ' H' F' L1 L2 s o o2 (g.mono ml)
  | bad => rw [e] at q; exact q
  | exc k d E1 =>
    rw [e] at q
    intro cls dd σ' H' F' L' s o ex g
    obtain ⟨y, C2, a2, v2, y1, y2, y3, y4, y5, y6⟩ := id ex
    obtain ⟨Ca, Cb, m1, m2, m3, _⟩ := c'.exms k y c x y1 hx
    rw [y2] at m1
    rw [ec.g] at m2
    cases m1
    cases m2
    refine ⟨errSub k c, by rw [y3]; exact m3, fun hs a ha => ?_, fun hs => ?_⟩
    · have q : Os Γ X W σ (i :: (sb.asg ++ sh.asg)) F L H (if errSub k c = true then (if E1.length ≤ i then O.bad else match exs Γ.call Γ.W (some (k, d)) sh (E1.set i none) with
        | .nx E2 => O.nx (E2.set i none)
        | .brk E2 => O.brk (E2.set i none)
        | .cnt E2 => O.cnt (E2.set i none)
        | .rt d2 E2 => O.rt d2 E2
        | _ => .bad) else .exc k d E1) D := q
      rw [if_pos hs] at q
      by_cases hlen : E1.length ≤ i
      · rw [if_pos hlen] at q
        exact q.elim
      rw [if_neg hlen] at q
      obtain ⟨L3, o3, p3⟩ := o.drop i (some (.ref a))
      have g1 : Agr (i :: (sb.asg ++ sh.asg)) σ (σ'.set i (some (.ref a))) := (g.mono ml).trans ((Agr.set _).mono mi)
      have s3 := s.sub p3
      refine ⟨F', L3, E1.set i none, some (k, d), ⟨s3.ok, o3, ex, fun P h => s3.tab P (rl.tab P h), fun j b h => by cases h; exact get_set (by rw [← o.len]; omega)⟩, ?_⟩
      have wipe : ∀ {E2 : En} {σ2 : L2.St} {F2 : Hp} {L2 : Fp} {H2 : Hp}, Step F' L3 H' F2 L2 H2 → OwnE X.K F2 E2 σ2 L2 → Agr sh.asg (σ'.set i (some (.ref a))) σ2 → ∃ L4, Step F L H F2 L4 H2 ∧ OwnE X.K F2 (E2.set i none) (σ2.set i none) L4 ∧ Agr (i :: (sb.asg ++ sh.asg)) σ (σ2.set i none) := fun {E2 σ2 F2 L2 H2} t o4 g2 => by
        obtain ⟨L4, o5, p5⟩ := o4.drop i none
        exact ⟨L4, (s3.trans t).sub p5, o5, (g1.trans (g2.mono mr)).trans ((Agr.set _).mono mi)⟩
      have hcall : (Γ.hot cls dd i a).call = Γ.call := rfl
      cases e2 : exs Γ.call Γ.W (some (k, d)) sh (E1.set i none) with
      | nx E2 =>
        rw [e2] at q
        show Os (Γ.hot cls dd i a) X W0 _ _ _ _ _ (exs Γ.call Γ.W (some (k, d)) sh (E1.set i none)) _
        rw [e2]
        intro σ2 H2 F2 L2 t o4 g2
        obtain ⟨L4, t1, t2, t3⟩ := wipe t o4 g2
        exact q _ H2 F2 L4 t1 t2 t3
      | brk E2 =>
        rw [e2] at q
        show Os (Γ.hot cls dd i a) X W0 _ _ _ _ _ (exs Γ.call Γ.W (some (k, d)) sh (E1.set i none)) _
        rw [e2]
        intro σ2 H2 F2 L2 t o4 g2
        obtain ⟨L4, t1, t2, t3⟩ := wipe t o4 g2
        exact q _ H2 F2 L4 t1 t2 t3
      | cnt E2 =>
        rw [e2] at q
        show Os (Γ.hot cls dd i a) X W0 _ _ _ _ _ (exs Γ.call Γ.W (some (k, d)) sh (E1.set i none)) _
        rw [e2]
        intro σ2 H2 F2 L2 t o4 g2
        obtain ⟨L4, t1, t2, t3⟩ := wipe t o4 g2
        exact q _ H2 F2 L4 t1 t2 t3
      | rt d2 E2 =>
        rw [e2] at q
        show Os (Γ.hot cls dd i a) X W0 _ _ _ _ _ (exs Γ.call Γ.W (some (k, d)) sh (E1.set i none)) _
        rw [e2]
        intro v σ2 H2 F2 L1 L2 t o4 o5 g2
        exact q v σ2 H2 F2 L1 L2 (s3.trans t) o4 o5 (g1.trans (g2.mono mr))
      | exc k2 d2 E2 =>
        rw [e2] at q
        exact q.elim
      | bad =>
        rw [e2] at q
        exact q.elim
    · have q : Os Γ X W σ (i :: (sb.asg ++ sh.asg)) F L H (if errSub k c = true then (if E1.length ≤ i then O.bad else match exs Γ.call Γ.W (some (k, d)) sh (E1.set i none) with
        | .nx E2 => O.nx (E2.set i none)
        | .brk E2 => O.brk (E2.set i none)
        | .cnt E2 => O.cnt (E2.set i none)
        | .rt d2 E2 => O.rt d2 E2
        | _ => .bad) else .exc k d E1) D := q
      rw [if_neg (by rw [hs]; exact Bool.false_ne_true)] at q
      exact q cls dd σ' H' F' L' s o ex (g.mono ml)
end
end VM

/-! Part O: a def keeps its promise; the whole text. -/
namespace VM
open PySem PySem.Spec PyProof.Rows L2

/-- what does not depend on the def -/
structure Tab where
  fnm : Nat → Option Str
  enm : Nat → Option Str
  free : List Str
  gl : Str → Option D
  cla : Str → Bool
  fat : Str → Str → Bool
  mth : Nat → Option (Str × Str)
def Tab.cx (T : Tab) (N : List Str) (sc : Scope) (call : Nat → List D → Rr) (W lev : Nat) (tbs : Addr → Prop) : Ctx where
  N := N
  sc := sc
  call := call
  W := W
  lev := lev
  calm := true
  body := true
  cu := none
  fnm := T.fnm
  enm := T.enm
  free := T.free
  gl := T.gl
  tbs := tbs
  hv := none
  cla := T.cla
  fat := T.fat
  mth := T.mth
/-- what is known of an error's class, no body in sight -/
structure ErrK (P : Program) (w : World) (K : PySem.W.Frag) (mg : Str → Option Value) (base : Heap) (x : Str) (C : Addr) : Prop where
  g : mg x = some (.ref C)
  ga : C = He.ga K x
  c : OexC K C
  no : PySem.W.findIn K (.ref C) "value" = some none
  xf : XfC K C
  ini : ∃ fI fd ps, PySem.W.findIn K (.ref C) "__init__" = some (some (.ref fI)) ∧ PySem.W.typeIn K (.ref fI) = some (.type "function") ∧ FnOk P w K mg base CX0 1 fI fd ps (spInit K) ∧ Binds K fd ps [] ∧ ∃ ds, Vals [.non] ds ∧ Binds K fd ps ds
  is : ExIs K C
structure Wld (T : Tab) (P : Program) (w : World) (K : PySem.W.Frag) (mg : Str → Option Value) (base : Heap) : Prop where
  free : ∀ x ∈ T.free, mg x = none
  gl : ∀ x d, T.gl x = some d → ∃ u v, mg x = some u ∧ RelV v u ∧ ∀ F, Own K F d v []
  errs : ∀ c x, T.enm c = some x → ∃ C, ErrK P w K mg base x C
  exms : ∀ c x c' x', T.enm c = some x → T.enm c' = some x' → ∃ C C', mg x = some (.ref C) ∧ mg x' = some (.ref C') ∧ PySem.W.exmOne K (.ref C) (.ref C') = some (errSub c c') ∧ PySem.W.kitOne K (.ref C) (.ref C') = some (errSub c c')
  cla : ∀ c, T.cla c = true → mg c = some (.ref (He.ga K c)) ∧ ClsK K c ∧ PySem.W.makesIn K (He.ga K c) = true ∧ PySem.W.keepIn K (.ref (He.ga K c)) = true ∧ PySem.W.kitOne K (.ref (He.ga K c)) (.ref (He.ga K c)) = some true ∧
    (∀ k : Kd, k ≠ .ins → PySem.W.kitOne K (.type k.nm) (.ref (He.ga K c)) = some false) ∧ ∀ c', T.cla c' = true → PySem.W.kitOne K (.ref (He.ga K c')) (.ref (He.ga K c)) = some (c' == c)
  fat : ∀ c f, T.fat c f = true → T.cla c = true ∧ NoAttr K (He.ga K c) f
  mth : ∀ f c m, T.mth f = some (c, m) → T.cla c = true ∧ PySem.W.findIn K (.ref (He.ga K c)) m = some (some (.ref (He.ma K (He.ga K c) m))) ∧ PySem.W.isFn K (.ref (He.ma K (He.ga K c) m)) = true
/-- all defs keep their promises -/
structure AllOk (T : Tab) (P : Program) (w : World) (K : PySem.W.Frag) (mg : Str → Option Value) (base : Heap) (tbs : Addr → Prop) (lev : Nat) (call : Nat → List D → Rr) : Prop where
  fns : ∀ f x, T.fnm f = some x → ∃ a fd ps, mg x = some (.ref a) ∧ PySem.W.keepIn K (.ref a) = true ∧ Binds K fd ps [] ∧ FnG P w K mg base lev a fd ps (spRun K mg T.enm tbs call f)
  mth : ∀ f c m, T.mth f = some (c, m) → ∃ fd ps, Binds K fd ps [] ∧ FnG P w K mg base lev (He.ma K (He.ga K c) m) fd ps (spRun K mg T.enm tbs call f)
section
variable {T : Tab} {P : Program} {w : World} {K : PySem.W.Frag} {mg : Str → Option Value} {base : Heap} {tbs : Addr → Prop}
theorem body_ok (Wd : Wld T P w K mg base) {N : List Str} {scope : Scope} {call : Nat → List D → Rr} {Wn lev : Nat} (AO : AllOk T P w K mg base tbs lev call) (nd : N.Nodup) (hlev : 2 ≤ lev) {qual : Str} {f : Addr} {cdv : Value} {A : Around} {outer : List Env} {s : Shared} {H : Hp} {E : XK}
    (gd : A.guards = some []) (hr : Room (lev + 1) (A.deeper (envOfC qual scope s.heap.objs.size f cdv))) : CtxOk (T.cx N scope call Wn lev tbs) (cxOf (L2.CX P w) P w K mg base N qual scope f cdv A outer s H E) (fun cls d _ H' => E cls d H') where
  n := rfl
  nd := nd
  sc := rfl
  calm := fun _ => rfl
  tk := takes_of rfl rfl rfl rfl
  po := passes_of rfl
  rm1 := fun _ => hr
  rm2 := fun _ => hr.mono (Nat.le_succ_of_le hlev)
  un := by
    have := hr.un
    show (A.deeper (envOfC qual scope s.heap.objs.size f cdv)).units + 66 < cLine
    omega
  fns := AO.fns
  gd := gd
  cla := Wd.cla
  fat := Wd.fat
  mth := fun f c m h => by
    obtain ⟨h1, h2, h3⟩ := Wd.mth f c m h
    exact ⟨h1, h2, h3, AO.mth f c m h⟩
  free := Wd.free
  bd := fun _ => ⟨rfl, rfl, rfl, fun _ => rfl⟩
  gl := Wd.gl
  errs := fun c x h => by
    obtain ⟨C, e⟩ := Wd.errs c x h
    exact ⟨C, e.g, e.ga, e.c, e.no, e.xf, e.ini, e.is⟩
  exms := Wd.exms
  cold := fun _ => rfl
  coldv := fun _ => rfl
  hot := fun cls d h => by cases h
theorem spRun_len {enm : Nat → Option Str} {Pg : Nat → Option Fn} {Wn k f : Nat} {fn : Fn} (hP : Pg f = some fn) {n : Nat} (hn : fn.np = n) : ∀ vs H Q E, spRun K mg enm tbs (run Pg Wn (k + 1)) f vs H Q E → vs.length = n := fun vs H Q E h => by
  obtain ⟨F, L, ds, _, o, _, q⟩ := h
  have q : (match (match Pg f with | some fn => runFn (run Pg Wn k) Wn fn ds | none => Rr.bad) with
    | .ret d ps => ∀ v H' F' L1 L2, Step F L H F' (L2 ++ L1) H' → OwnL K F' ps vs L1 → Own K F' d v L2 → Q v H'
    | .exc c d ps => ∀ cls dd H' F' L1, Step F L H F' L1 H' → OwnL K F' ps vs L1 → ExcIs K mg enm F' c d cls dd → E cls dd H'
    | .bad => False) := q
  rw [hP] at q
  by_cases hl : ds.length = fn.np ∧ fn.np ≤ fn.ns
  · rw [← o.length, hl.1, hn]
  · have e : runFn (run Pg Wn k) Wn fn ds = .bad := by
      unfold runFn
      rw [if_neg hl]
    have q : (match runFn (run Pg Wn k) Wn fn ds with
    | .ret d ps => ∀ v H' F' L1 L2, Step F L H F' (L2 ++ L1) H' → OwnL K F' ps vs L1 → Own K F' d v L2 → Q v H'
    | .exc c d ps => ∀ cls dd H' F' L1, Step F L H F' L1 H' → OwnL K F' ps vs L1 → ExcIs K mg enm F' c d cls dd → E cls dd H'
    | .bad => False) := q
    rw [e] at q
    exact q.elim
theorem start_eq {N : List Str} {vs : List V} {n np : Nat} (h : vs.length = np) (hs : n = N.length) : L2.start N vs = vs.map some ++ List.replicate (n - np) none := by
  unfold L2.start
  rw [h, hs]
theorem fins_of {asg : List Nat} {E0 : En} {σ : L2.St} {F' : Hp} {ds ps : List D} {vs : List V} {L' M : Fp} {n : Nat} {F : Hp} {L : Fp} (o : OwnL K F ds vs L) (ff : Same F F') (e : VM.fins asg E0 0 ds = some ps) (ag : Agr asg (vs.map some ++ List.replicate n none) σ) (oE : OwnE K F' E0 σ M) : ∃ L', OwnL K F' ps vs L' ∧ List.Sublist L' M :=
  OwnE.fins (σ0 := σ) (OwnL.mono ff _ _ _ o) e (fun i => by rw [Nat.zero_add]) (fun i => by rw [Nat.zero_add]) (fun i v hi hv => by
    rw [Nat.zero_add] at hi ⊢
    rw [ag i hi]
    have hl : i < vs.length := (List.getElem?_eq_some_iff.mp hv).1
    rw [List.getElem?_append_left (by rw [List.length_map]; exact hl), List.getElem?_map, hv]
    rfl) oE
/-- a def of the text, by what its body does where no guard stands below -/
theorem fnG_of {x qual : Str} {params : Arguments} {body : List Stmt} {scope : Scope} {dvs : List V} {kws : List (Str × V)} {a : Addr} {fd : FuncData} {N ps : List Str} {lev : Nat} {sp : Sp} (F : FunD K x qual params body scope dvs kws a fd) (S : FnScope N ps scope) (many : ∀ vs H Q E, sp vs H Q E → vs.length = ps.length)
    (does : ∀ (cdv : Value) (A : Around) (outer : List Env) (s : Shared) (H : Hp) (vs : List V) (Q : VK) (E : XK), A.guards = some [] → Room lev (A.deeper (envOfC qual scope s.heap.objs.size a cdv)) → sp vs H Q E →
      ∃ t, PSs (cxOf (L2.CX P w) P w K mg base N qual scope a cdv A outer s H E) body t ∧ t { nx := fun _ H' => Q .non H', rt := Q } (start N vs) H) : FnG P w K mg base (lev + 1) a fd ps sp := by
  obtain ⟨_, _, _, _, _, _, _, cdv, _, _, rfl, at_, rec_, _, _⟩ := F.ex
  refine ⟨fun h => many _ _ _ _ h, fun {A outer s H args us vs Q E} gd room e0 bd rv hs => ?_⟩
  have up : ∀ b o, base.get? b = some o → s.heap.get? b = some o := fun b o e => (e0.bs b o e).1
  have kin : K.In s.heap := e0.mod.kin.keeps up
  have n := many _ _ _ _ hs
  refine codeAny_call_function room.depth (kin _ _ at_) rfl S.co S.gen rfl (PySem.W.codeRec_of kin rec_) (bd _ _ _ _ (wpAny_newFunctionEnv_cells S.kind (fun q hq => ?_) fun env he s1 made => ?_))
  · have hm : q.1 ∈ ps := (List.of_mem_zip (show (q.1, q.2) ∈ ps.zip us from hq)).1
    exact (S.par q.1 hm).imp id fun c => ⟨c, PySem.W.cellsFrom_some _ _ _ (.inl c)⟩
  subst he
  obtain ⟨t, ht, hq⟩ := does cdv A outer s H vs Q E gd (room.deeper _) hs
  have J := inv_start (CX := L2.CX P w) (mg := mg) (base := base) (outer := outer) (E := E) (cd := cdv) S room.hd e0 n rv made
  have close : ∀ {τ : L2.St} {G : Hp} {v : V} {u : Value} {s2 : Shared}, Inv (cxOf (L2.CX P w) P w K mg base N qual scope a cdv A outer s H E) [] τ G s2 → RelV v u → Q v G → CE outer P w H s Q u s2 := fun {τ G v u s2} i r q => ⟨v, G, i.os, i.bare, i.base, i.hok, r, q⟩
  refine ⟨e0.mod.nolimit.keeps fun b o e => made.toInCall.keep b o (up b o e), codeAny_func (wpAny_mono (ht.run [] s1 (start N vs) H _ J hq) (fun fl s2 z => ?_) fun _ _ z => z)⟩
  match fl, z with
  | .ret u, ⟨v, τ, G, i, r, q⟩ => exact close i r q
  | .next, ⟨τ, G, i, q⟩ => exact close (v := .non) (u := .none) i rfl q
  | .brk, ⟨_, _, _, q⟩ => exact q.elim
  | .cont, ⟨_, _, _, q⟩ => exact q.elim
/-- THE RULE -/
theorem def_ok (Wd : Wld T P w K mg base) {Pg : Nat → Option Fn} {Wn k lev f : Nat} {fn : Fn} {x qual : Str} {params : Arguments} {body : List Stmt} {scope : Scope} {dvs : List V} {kws : List (Str × V)} {a : Addr} {fd : FuncData} {N ps : List Str}
    (AO : AllOk T P w K mg base tbs lev (run Pg Wn k)) (F : FunD K x qual params body scope dvs kws a fd) (S : FnScope N ps scope) (hP : Pg f = some fn) (hn : fn.np = ps.length) (hs : fn.ns = N.length) (hlev : 2 ≤ lev)
    (hb : GB (T.cx N scope (run Pg Wn k) Wn lev tbs) body fn.body) : FnG P w K mg base (lev + 2) a fd ps (spRun K mg T.enm tbs (run Pg Wn (k + 1)) f) := by
  refine fnG_of F S (spRun_len hP hn) fun cdv A outer s H vs Q E gd hr h => ⟨_, hb (fun i a h => by cases h) _ _ (body_ok Wd AO S.nd hlev gd hr), ?_⟩
  have hv := spRun_len hP hn vs H Q E h
  obtain ⟨F0, L0, ds, ok, o, tb, q⟩ := h
  have q : (match (match Pg f with | some fn => runFn (run Pg Wn k) Wn fn ds | none => Rr.bad) with
    | .ret d ps => ∀ v H' F' L1 L2, Step F0 L0 H F' (L2 ++ L1) H' → OwnL K F' ps vs L1 → Own K F' d v L2 → Q v H'
    | .exc c d ps => ∀ cls dd H' F' L1, Step F0 L0 H F' L1 H' → OwnL K F' ps vs L1 → ExcIs K mg T.enm F' c d cls dd → E cls dd H'
    | .bad => False) := q
  rw [hP] at q
  have q : (match runFn (run Pg Wn k) Wn fn ds with
    | .ret d ps => ∀ v H' F' L1 L2, Step F0 L0 H F' (L2 ++ L1) H' → OwnL K F' ps vs L1 → Own K F' d v L2 → Q v H'
    | .exc c d ps => ∀ cls dd H' F' L1, Step F0 L0 H F' L1 H' → OwnL K F' ps vs L1 → ExcIs K mg T.enm F' c d cls dd → E cls dd H'
    | .bad => False) := q
  unfold runFn at q
  by_cases hl : ds.length = fn.np ∧ fn.np ≤ fn.ns
  · rw [if_pos hl] at q
    rw [start_eq hv (n := fn.ns) hs]
    rw [← hn]
    refine ⟨F0, L0, _, none, ⟨ok, OwnE.start (n := fn.ns - fn.np) o, trivial, tb, fun i a h => by cases h⟩, ?_⟩
    show Os _ _ _ _ _ _ _ _ (exs (run Pg Wn k) Wn none fn.body (ds.map some ++ List.replicate (fn.ns - fn.np) none)) _
    cases e : exs (run Pg Wn k) Wn none fn.body (ds.map some ++ List.replicate (fn.ns - fn.np) none) with
    | nx E1 =>
      rw [e] at q
      intro σ' H' F' L' s o1 ag
      cases e2 : fins fn.body.asg E1 0 ds with
      | none =>
        dsimp only at q
        rw [e2] at q
        exact q.elim
      | some pp =>
        dsimp only at q
        rw [e2] at q
        obtain ⟨L1, o2, s2⟩ := fins_of (L' := L') o s.ff e2 ag o1
        exact q .non H' F' L1 [] (s.sub s2) o2 non_own
    | rt d E1 =>
      rw [e] at q
      intro v σ' H' F' L1 L2 s o1 o2 ag
      cases e2 : fins fn.body.asg E1 0 ds with
      | none =>
        dsimp only at q
        rw [e2] at q
        exact q.elim
      | some pp =>
        dsimp only at q
        rw [e2] at q
        obtain ⟨L3, o3, s3⟩ := fins_of (L' := L1) o s.ff e2 ag o1
        exact q v H' F' L3 L2 (s.sub (List.Sublist.append (List.Sublist.refl _) s3)) o3 o2
    | exc c d E1 =>
      rw [e] at q
      intro cls dd σ' H' F' L' s o1 ex ag
      cases e2 : fins fn.body.asg E1 0 ds with
      | none =>
        dsimp only at q
        rw [e2] at q
        exact q.elim
      | some pp =>
        dsimp only at q
        rw [e2] at q
        obtain ⟨L1, o2, s2⟩ := fins_of (L' := L') o s.ff e2 ag o1
        exact q cls dd H' F' L1 (s.sub s2) o2 ex
    | brk E1 =>
      rw [e] at q
      exact q.elim
    | cnt E1 =>
      rw [e] at q
      exact q.elim
    | bad =>
      rw [e] at q
      exact q.elim
  · rw [if_neg hl] at q
    exact q.elim
/-- no def at all is run -/
theorem bad_ok {lev f : Nat} {Pg : Nat → Option Fn} {Wn : Nat} {a : Addr} {fd : FuncData} {ps : List Str} : FnG P w K mg base lev a fd ps (spRun K mg T.enm tbs (run Pg Wn 0) f) := by
  have no : ∀ vs H Q E, spRun K mg T.enm tbs (run Pg Wn 0) f vs H Q E → False := fun vs H Q E h => by
    obtain ⟨F, L, ds, _, _, _, q⟩ := h
    exact q
  exact ⟨fun h => (no _ _ _ _ h).elim, fun _ _ _ _ _ h => (no _ _ _ _ h).elim⟩
/-! ### MadeError.__init__ -/
theorem init_ok {qual : Str} {params : Arguments} {scope : Scope} {dvs : List V} {kws : List (Str × V)} {a : Addr} {fd : FuncData} {p1 p2 p3 p4 : Pos} (F : FunD K "__init__" qual params [.Assign [.Attribute (.Name "self" p1) "value" p2] (.Name "value" p3) p4] scope dvs kws a fd) (S : FnScope ["self", "value"] ["self", "value"] scope)
    (h1 : scope.names.lookup ("self" : Str) = some .local) (h2 : scope.names.lookup ("value" : Str) = some .local) : FnOk P w K mg base CX0 1 a fd ["self", "value"] (spInit K) := by
  refine F.ok S (fun vs H Q E h => ?_) fun cdv A outer s H vs Q E hr h => ⟨_, pss_one (ps_ost (pe_var (i := 0) rfl (.inl h1)) (pe_var (i := 1) rfl (.inl h2))), ?_⟩
  · obtain ⟨b, C, y, rfl, _⟩ := h
    rfl
  · obtain ⟨b, C, y, rfl, hC, hf, hb, hq⟩ := h
    exact ⟨y, rfl, .ref b, rfl, b, C, rfl, hC, hf, .inl ⟨hb, fun dx n1 n2 => hq dx n1 n2⟩⟩
end
end VM

/-! Part P: what the head tells; a law's end. -/
namespace VM
open PySem PySem.Spec PyProof.Rows L2

def hookV (n : Nat) (fa : List He.Fa) (fn : List He.DefD) (ex : PySem.W.Frag → Bool) : PySem.W.Hook where
  α := He.AlD × Bool
  obs := fun s => (fun K => (He.obsD fa fn K, ex K)) (He.frG s.heap.get? (He.asD s.heap.get? n))
  val := fun _ => (He.valD fn, true)
  says := fun _ h => ∃ K : PySem.W.Frag, K.In h ∧ He.SaysD fa fn K ∧ ex K = true
  of := fun _ _ e => ⟨_, He.frG_in, congrArg (fun z : He.AlD × Bool => z.1) e, congrArg (fun z : He.AlD × Bool => z.2) e⟩
  keeps := fun _ _ _ ⟨K, hK, c⟩ k => ⟨K, PySem.W.Frag.In.keeps hK k, c⟩
def obsV (n : Nat) (fa : List He.Fa) (fn : List He.DefD) (ex : PySem.W.Frag → Bool) (g : Addr → Option Obj) : He.AlD × Bool := (fun K => (He.obsD fa fn K, ex K)) (He.frG g (He.asD g n))
theorem obsV_eq {n : Nat} {fa : List He.Fa} {fn : List He.DefD} {ex : PySem.W.Frag → Bool} {g : Addr → Option Obj} {s : Shared} (h : ∀ a, g a = s.heap.get? a) : obsV n fa fn ex g = (hookV n fa fn ex).obs s := by
  have e : g = s.heap.get? := funext h
  rw [e] <;> rfl
/-! ### errors -/
def oexB (K : PySem.W.Frag) (C : Addr) : Bool := (match K.lookup C with
  | some ⟨.type "type", _, .cls cd, sl⟩ => (match cd.mro, sl.toList with
    | .ref C' :: bm, [_, _, _, _, some (.builtin n), _] => C' == C && (n == "ValueError.__new__" && (!cd.hasDel && (cd.hasDict && PySem.HandSPX.refsVE bm)))
    | _, _ => false)
  | _ => false) && (decide (PySem.W.findIn K (.ref C) "__setattr__" = some (some (.builtin "object.__setattr__"))) && (decide (PySem.W.subIn K (.ref C) (.type "BaseException") = some true) && (decide (PySem.W.typeIn K (.ref C) = some (.type "type")) && PySem.W.keepIn K (.ref C))))
theorem oexB_ok {K : PySem.W.Frag} {C : Addr} (h : oexB K C = true) : OexC K C := by
  obtain ⟨q, h⟩ := He.ba h
  obtain ⟨h1, h⟩ := He.ba h
  obtain ⟨h2, h⟩ := He.ba h
  obtain ⟨h3, h4⟩ := He.ba h
  refine ⟨?_, of_decide_eq_true h1, of_decide_eq_true h2, of_decide_eq_true h3, h4⟩
  split at q
  · rename_i dd cd sl ho
    split at q
    · rename_i C' bm k0 k1 k2 k3 n k5 hm hs
      simp only [Bool.and_eq_true, beq_iff_eq, Bool.not_eq_true'] at q
      obtain ⟨e1, e2, hdel, hdic, hbm⟩ := q
      subst e1 e2
      obtain ⟨nm, bs, mro, ns, qn, hd, sn, sub, ab, col, del⟩ := cd
      dsimp only at hm hdel hdic
      subst hm hdel hdic
      obtain ⟨l⟩ := sl
      dsimp only at hs
      subst hs
      exact ⟨nm, qn, ns, bs, bm, sn, sub, ab, col, dd, k0, k1, k2, k3, k5, ho, hbm⟩
    · cases q
  · cases q
def errB (K : PySem.W.Frag) (fI : Addr) (x : Str) : Bool := (fun C => oexB K C && (decide (PySem.W.findIn K (.ref C) "value" = some none) && (xfB K C && (exIsB K C && decide (PySem.W.findIn K (.ref C) "__init__" = some (some (.ref fI))))))) (He.ga K x)
/-- a class whose instances are data: its name, its fields, its methods -/
structure Cd where
  nm : Str
  fs : List Str
  ms : List Str
def kds : List Kd := [.non, .bl, .int, .str, .tup, .lst, .dct]
theorem kds_all {k : Kd} (h : k ≠ .ins) : k ∈ kds := by
  cases k <;> first | exact absurd rfl h | decide
def clsKB (K : PySem.W.Frag) (c : Str) : Bool := (PySem.W.plainGet K (He.ga K c) Str.empty && (PySem.W.hasDictIn K (He.ga K c) && (PySem.W.plainOver K (He.ga K c) && He.eqO (PySem.W.findIn K (.ref (He.ga K c)) "__setattr__") (some (some (.builtin "object.__setattr__")))))) &&
  (He.eqO (PySem.W.findIn K (.ref (He.ga K c)) "__class__") (some (some (.builtin "object.__class__"))) && (He.eqO (PySem.W.specialIn K (.builtin "object.__class__") "__get__") (some (some (.builtin "getset_descriptor.__get__"))) && (decide (PySem.W.takesIn K (.builtin "object.__class__") = some true) &&
  (decide (PySem.W.mroIn K (He.ga K c) (.type "object") = some true) && ((["int", "bool", "str", "list", "tuple", "dict"] : List String).all (fun t => decide (PySem.W.kitOne K (.ref (He.ga K c)) (.type t) = some false)) && He.eqO (PySem.W.findIn K (.ref (He.ga K c)) "__ne__") (some (some (.builtin "object.__ne__"))))))))
theorem clsKB_ok {K : PySem.W.Frag} {c : Str} (h : clsKB K c = true) : ClsK K c := by
  unfold clsKB at h
  simp only [Bool.and_eq_true, decide_eq_true_eq] at h
  obtain ⟨⟨h1, h2, h3, h4⟩, h5, h6, h7, h8, h9, h10⟩ := h
  exact ⟨⟨h1, h2, h3, He.eqO_ok h4⟩, He.eqO_ok h5, He.eqO_ok h6, h7, h8, fun t ht => of_decide_eq_true (List.all_eq_true.mp h9 t ht), He.eqO_ok h10⟩
def cdB (all : List Cd) (K : PySem.W.Frag) (d : Cd) : Bool := He.eqO (PySem.W.nsIn K mainGlobals d.nm) (some (some (.ref (He.ga K d.nm)))) && (clsKB K d.nm && (PySem.W.makesIn K (He.ga K d.nm) && (PySem.W.keepIn K (.ref (He.ga K d.nm)) && (decide (PySem.W.kitOne K (.ref (He.ga K d.nm)) (.ref (He.ga K d.nm)) = some true) &&
  ((kds.all fun k => decide (PySem.W.kitOne K (.type k.nm) (.ref (He.ga K d.nm)) = some false)) && ((all.all fun d' => decide (PySem.W.kitOne K (.ref (He.ga K d'.nm)) (.ref (He.ga K d.nm)) = some (d'.nm == d.nm))) &&
  ((d.fs.all fun f => He.eqO (PySem.W.findIn K (.ref (He.ga K d.nm)) f) (some none)) && d.ms.all fun m => He.eqO (PySem.W.findIn K (.ref (He.ga K d.nm)) m) (some (some (.ref (He.ma K (He.ga K d.nm) m)))) && PySem.W.isFn K (.ref (He.ma K (He.ga K d.nm) m)))))))))
def claOf (cds : List Cd) (c : Str) : Bool := cds.any fun d => d.nm == c
def fatOf (cds : List Cd) (c f : Str) : Bool := cds.any fun d => d.nm == c && d.fs.contains f
def mtsOf (cds : List Cd) : List (Str × Str) := cds.flatMap fun d => d.ms.map fun m => (d.nm, m)
/-- made: the errors' names, the first over all others -/
def exB (made : List Str) (gls : List (Str × He.Dv)) (fr : List Str) (cds : List Cd) (K : PySem.W.Frag) : Bool :=
  made.all (fun x => He.eqO (PySem.W.nsIn K mainGlobals x) (some (some (.ref (He.ga K x)))) && errB K (He.ma K (He.ga K "MadeError") "__init__") x) && ((made.isEmpty || decide (PySem.W.typeIn K (.ref (He.ma K (He.ga K "MadeError") "__init__")) = some (.type "function"))) &&
  ((List.range made.length).all (fun i => (List.range made.length).all fun j => decide (PySem.W.exmOne K (.ref (He.ga K (made.getD i ""))) (.ref (He.ga K (made.getD j ""))) = some (errSub i j)) && decide (PySem.W.kitOne K (.ref (He.ga K (made.getD i ""))) (.ref (He.ga K (made.getD j ""))) = some (errSub i j))) &&
  (gls.all (fun q => match PySem.W.nsIn K mainGlobals q.1 with
    | some (some u) => He.relB (q.2.v K) u
    | _ => false) && (fr.all (fun x => He.eqO (PySem.W.nsIn K mainGlobals x) (some none)) && cds.all (cdB cds K)))))
/-- a constant of the module, as data -/
def glD : He.Dv → Option D
  | .non => some .non
  | .bl b => some (.bl b)
  | .int i => some (.int i)
  | .str x => some (.str x)
  | _ => none
def glOf (gls : List (Str × He.Dv)) (x : Str) : Option D := (gls.lookup x).bind glD
theorem glD_own {K : PySem.W.Frag} {v : He.Dv} {d : D} (h : glD v = some d) (F : Hp) : Own K F d (v.v K) [] := by
  cases v <;> cases h <;> exact ⟨rfl, rfl⟩
theorem lookup_memS {α : Type} {x : Str} {v : α} : ∀ {l : List (Str × α)}, l.lookup x = some v → (x, v) ∈ l
  | [], h => by cases h
  | (y, u) :: r, h => by
    by_cases e : x = y
    · subst e
      rw [List.lookup_cons_self] at h
      cases h
      exact List.mem_cons_self
    · have e2 : (x == y) = false := by simpa using e
      rw [List.lookup_cons, e2] at h
      exact List.mem_cons_of_mem _ (lookup_memS h)
theorem getD_of {l : List Str} {i : Nat} {x : Str} (h : l[i]? = some x) : l.getD i "" = x ∧ i < l.length := by
  refine ⟨by rw [List.getD_eq_getElem?_getD, h]; rfl, (List.getElem?_eq_some_iff.mp h).1⟩
def tabOf (nms made : List Str) (gls : List (Str × He.Dv)) (fr : List Str) (n : Nat) (cds : List Cd) : Tab := ⟨fun f => nms[f]?, fun c => made[c]?, fr, glOf gls, claOf cds, fatOf cds, fun f => if n ≤ f then (mtsOf cds)[f - n]? else none⟩
section
variable {P : Program} {w : World} {K : PySem.W.Frag} {mg : Str → Option Value} {base h : Heap} {nms made : List Str} {gls : List (Str × He.Dv)} {fr : List Str} {n : Nat} {cds : List Cd}
theorem wld_of (X : K.In h) (G : h.Ns mainGlobals mg) (e : exB made gls fr cds K = true)
    (ini : made ≠ [] → ∃ fd, FnOk P w K mg base CX0 1 (He.ma K (He.ga K "MadeError") "__init__") fd ["self", "value"] (spInit K) ∧ Binds K fd ["self", "value"] [] ∧ ∃ ds, Vals [.non] ds ∧ Binds K fd ["self", "value"] ds) : Wld (tabOf nms made gls fr n cds) P w K mg base := by
  obtain ⟨h1, e⟩ := He.ba e
  obtain ⟨h2, e⟩ := He.ba e
  obtain ⟨h3, e⟩ := He.ba e
  obtain ⟨h4, e⟩ := He.ba e
  obtain ⟨h5, h6⟩ := He.ba e
  have gc : ∀ d ∈ cds, cdB cds K d = true := fun d hd => List.all_eq_true.mp h6 d hd
  have of_cla : ∀ {c}, claOf cds c = true → ∃ d ∈ cds, d.nm = c := fun {c} h => by
    obtain ⟨d, hd, e⟩ := List.any_eq_true.mp h
    exact ⟨d, hd, eq_of_beq e⟩
  have cdI : ∀ d ∈ cds, mg d.nm = some (.ref (He.ga K d.nm)) ∧ ClsK K d.nm ∧ PySem.W.makesIn K (He.ga K d.nm) = true ∧ PySem.W.keepIn K (.ref (He.ga K d.nm)) = true ∧ PySem.W.kitOne K (.ref (He.ga K d.nm)) (.ref (He.ga K d.nm)) = some true ∧
      (∀ k : Kd, k ≠ .ins → PySem.W.kitOne K (.type k.nm) (.ref (He.ga K d.nm)) = some false) ∧ (∀ d' ∈ cds, PySem.W.kitOne K (.ref (He.ga K d'.nm)) (.ref (He.ga K d.nm)) = some (d'.nm == d.nm)) ∧
      (∀ f ∈ d.fs, NoAttr K (He.ga K d.nm) f) ∧ ∀ m ∈ d.ms, PySem.W.findIn K (.ref (He.ga K d.nm)) m = some (some (.ref (He.ma K (He.ga K d.nm) m))) ∧ PySem.W.isFn K (.ref (He.ma K (He.ga K d.nm) m)) = true := fun d hd => by
    have z := gc d hd
    unfold cdB at z
    simp only [Bool.and_eq_true, decide_eq_true_eq] at z
    obtain ⟨z1, z2, z3, z4, z5, z6, z7, z8, z9⟩ := z
    refine ⟨PySem.W.mg_of X G (He.eqO_ok z1), clsKB_ok z2, z3, z4, z5, fun k hk => of_decide_eq_true (List.all_eq_true.mp z6 k (kds_all hk)), fun d' hd' => of_decide_eq_true (List.all_eq_true.mp z7 d' hd'), fun f hf => He.eqO_ok (List.all_eq_true.mp z8 f hf), fun m hm => ?_⟩
    have y := List.all_eq_true.mp z9 m hm
    simp only [Bool.and_eq_true] at y
    exact ⟨He.eqO_ok y.1, y.2⟩
  have gm : ∀ {x : Str}, x ∈ made → mg x = some (.ref (He.ga K x)) := fun {x} hx => PySem.W.mg_of X G (He.eqO_ok (He.ba (List.all_eq_true.mp h1 x hx)).1)
  refine ⟨fun x hx => PySem.W.mg_none_of X G (He.eqO_ok (List.all_eq_true.mp h5 x hx)), fun x d hd => ?_, fun c x hc => ?_, fun c x c' x' hc hc' => ?_, fun c hc => ?_, fun c f hc => ?_, fun f c m hm => ?_⟩
  · obtain ⟨v, e1, e2⟩ := Option.bind_eq_some_iff.mp (show (gls.lookup x).bind glD = some d from hd)
    have q := List.all_eq_true.mp h4 _ (lookup_memS e1)
    dsimp only at q
    cases z : PySem.W.nsIn K mainGlobals x with
    | none =>
      rw [z] at q
      cases q
    | some o =>
      rw [z] at q
      cases o with
      | none => cases q
      | some u => exact ⟨u, v.v K, PySem.W.mg_of X G z, He.relB_ok q, fun F => glD_own e2 F⟩
  · have hm : x ∈ made := List.mem_of_getElem? hc
    obtain ⟨q1, q⟩ := He.ba (He.ba (List.all_eq_true.mp h1 x hm)).2
    obtain ⟨q2, q⟩ := He.ba q
    obtain ⟨q3, q⟩ := He.ba q
    obtain ⟨q5, q4⟩ := He.ba q
    have ne : made ≠ [] := fun z => by rw [z] at hm; cases hm
    obtain ⟨fd, i1, i2, i3⟩ := ini ne
    have t : decide (PySem.W.typeIn K (.ref (He.ma K (He.ga K "MadeError") "__init__")) = some (.type "function")) = true := by
      cases hz : made with
      | nil => exact absurd hz ne
      | cons a r =>
        rw [hz] at h2
        exact h2
    exact ⟨_, gm hm, rfl, oexB_ok q1, of_decide_eq_true q2, xfB_ok q3, ⟨_, fd, _, of_decide_eq_true q4, of_decide_eq_true t, i1, i2, i3⟩, exIsB_ok q5⟩
  · obtain ⟨a1, a2⟩ := getD_of (show made[c]? = some x from hc)
    obtain ⟨b1, b2⟩ := getD_of (show made[c']? = some x' from hc')
    have q := List.all_eq_true.mp (List.all_eq_true.mp h3 c (List.mem_range.mpr a2)) c' (List.mem_range.mpr b2)
    rw [a1, b1] at q
    exact ⟨_, _, gm (List.mem_of_getElem? hc), gm (List.mem_of_getElem? hc'), of_decide_eq_true (He.ba q).1, of_decide_eq_true (He.ba q).2⟩
  · obtain ⟨d, hd, rfl⟩ := of_cla hc
    obtain ⟨y1, y2, y3, y4, y5, y6, y7, _, _⟩ := cdI d hd
    refine ⟨y1, y2, y3, y4, y5, y6, fun c' hc' => ?_⟩
    obtain ⟨d', hd', rfl⟩ := of_cla hc'
    exact y7 d' hd'
  · obtain ⟨d, hd, e⟩ := List.any_eq_true.mp (show fatOf cds c f = true from hc)
    obtain ⟨e1, e2⟩ := Bool.and_eq_true_iff.mp e
    have e1 : d.nm = c := eq_of_beq e1
    subst e1
    exact ⟨List.any_eq_true.mpr ⟨d, hd, by simp⟩, (cdI d hd).2.2.2.2.2.2.2.1 f (List.contains_iff_mem.mp e2)⟩
  · have hm : (if n ≤ f then (mtsOf cds)[f - n]? else none) = some (c, m) := hm
    split at hm
    · obtain ⟨d, hd, e⟩ := List.mem_flatMap.mp (List.mem_of_getElem? hm)
      obtain ⟨m', hm', e2⟩ := List.mem_map.mp e
      cases e2
      obtain ⟨y1, y2⟩ := (cdI d hd).2.2.2.2.2.2.2.2 m hm'
      exact ⟨List.any_eq_true.mpr ⟨d, hd, by simp⟩, y1, y2⟩
    · cases hm
/-! ### the law's end -/
/-- without its tables -/
def noT (H : Hp) : Hp := fun b => match H b with
  | some (.tbl _) => none
  | o => o
theorem noT_some {H : Hp} {b : Addr} {o : HO} (h : noT H b = some o) : H b = some o ∧ NT o := by
  unfold noT at h
  split at h
  · cases h
  · rename_i h2
    refine ⟨h, fun ps e => ?_⟩
    rw [e] at h
    exact h2 ps h
theorem noT_of {H : Hp} {b : Addr} {o : HO} (h : H b = some o) (nt : NT o) : noT H b = some o := by
  unfold noT
  rw [h]
  split
  · rename_i ps e
    cases e
    exact absurd rfl (nt ps)
  · rfl
theorem law_sp {tbs : Addr → Prop} {enm : Nat → Option Str} {Pg : Nat → Option Fn} {Wn k f : Nat} {H : Hp} {a : Addr} {ns : List Int} (hS : SqL K H a (ns.map V.int)) (tb : ∀ P, tbs P → GxR.TabG H P) {ps : List D} (hr : run Pg Wn k f [.scr (ns.map D.int)] = .ret (.bl true) ps) :
    spRun K mg enm tbs (run Pg Wn k) f [.ref a] H (fun v _ => v = .bl true) fun _ _ _ => False := by
  have hS2 : SqL K (noT H) a (ns.map V.int) := by
    rcases hS with (h | ⟨o, h⟩) | h
    · exact .inl (.inl (noT_of h fun ps e => by cases e))
    · exact .inl (.inr ⟨o, noT_of h fun ps e => by cases e⟩)
    · exact .inr h
  have o : OwnL K (noT H) [.scr (ns.map D.int)] [.ref a] [] := by
    refine ⟨.ref a, [], [], [], rfl, rfl, ⟨rfl, a, ns.map V.int, rfl, hS2, ?_⟩, rfl, rfl⟩
    clear hS hr hS2
    induction ns with
    | nil => exact ⟨rfl, rfl⟩
    | cons n ns ih => exact ⟨.int n, ns.map V.int, [], [], rfl, rfl, ⟨rfl, rfl⟩, ih⟩
  refine ⟨noT H, [], _, ⟨fun b o h => (noT_some h).1, (fun p hp => by cases hp), List.nodup_nil, (fun p hp => by cases hp), (fun p hp => by cases hp), fun b o h => (noT_some h).2⟩, o, tb, ?_⟩
  rw [hr]
  exact fun v H' F' L1 L2 _ _ o2 => o2.1
end
end VM

/-! Part Q: further rules. -/
namespace VM
open PySem PySem.Spec L2
section
variable {Γ : Ctx} {pos p p2 apos : Pos}
theorem ge_cut00 {a : Expr} {ma : M} (ha : GE Γ a ma) : GE Γ (.Subscript a (.Slice none none none p2) pos) (.aop (.cut false false) (.cons ma .nil)) := fun X W c =>
  PE.imp (pe_slice sl_all (ha X W c) po_none po_none) fun σ H Q h => by
    obtain ⟨F, L, E, cur, rl, q⟩ := h
    rw [ev_aop, evs_one] at q
    refine ⟨F, L, E, cur, rl, Bs.bind0 rl.ok q fun d E1 q1 v H1 F1 L1 L2 s1 o1 o2 => ?_⟩
    split at q1
    · rename_i dd e
      have i3 := s1.ok.inH
      refine oa_cut F1 H1 d v L2 none none dd _ s1.ok.fH (fun p hp => i3 p (List.mem_append_left _ hp)) o2 e fun v' H' rs => ?_
      have s4 := s1.sub (L'' := L1) sub_r
      obtain ⟨F3, L3, s5, o5⟩ := rs.owned s4.ok
      exact q1 v' H' F3 L1 L3 (s4.trans s5) (o1.mono s5.ff) o5
    · exact q1.elim
theorem ge_cut01 {a l : Expr} {ma ml : M} (ha : GE Γ a ma) (hl : GE Γ l ml) : GE Γ (.Subscript a (.Slice none (some l) none p2) pos) (.aop (.cut false true) (.cons ma (.cons ml .nil))) := fun X W c =>
  PE.imp (pe_slice sl_all (ha X W c) po_none (po_some (hl X W c))) fun σ H Q h => by
    obtain ⟨F, L, E, cur, rl, q⟩ := h
    rw [ev_aop, evs_two] at q
    refine ⟨F, L, E, cur, rl, Bs.bind0 rl.ok q fun d E1 q1 v H1 F1 L1 L2 s1 o1 o2 => ?_⟩
    refine ⟨F1, L1, E1, cur, rl.on s1 sub_r o1, Bs.bindS s1 q1 fun d' E2 q2 u H2 F2 L1' L2' s2 s3 o3 o4 => ?_⟩
    split at q2
    · rename_i dd e
      cases d' with
      | int lo =>
        refine ⟨lo, own_int o4, ?_⟩
        have i3 := s3.ok.inH
        refine oa_cut F2 H2 d v L2 none (some lo) dd _ s3.ok.fH (fun p hp => i3 p (List.mem_append_left _ hp)) (o2.mono s2.ff) e fun v' H' rs => ?_
        have s4 := s3.sub (L'' := L1') (sub_r.trans sub_r)
        obtain ⟨F3, L3, s5, o5⟩ := rs.owned s4.ok
        exact q2 v' H' F3 L1' L3 (s4.trans s5) (o3.mono s5.ff) o5
      | _ => cases e
    · exact q2.elim
theorem ge_cut10 {a l : Expr} {ma ml : M} (ha : GE Γ a ma) (hl : GE Γ l ml) : GE Γ (.Subscript a (.Slice (some l) none none p2) pos) (.aop (.cut true false) (.cons ma (.cons ml .nil))) := fun X W c =>
  PE.imp (pe_slice sl_all (ha X W c) (po_some (hl X W c)) po_none) fun σ H Q h => by
    obtain ⟨F, L, E, cur, rl, q⟩ := h
    rw [ev_aop, evs_two] at q
    refine ⟨F, L, E, cur, rl, Bs.bind0 rl.ok q fun d E1 q1 v H1 F1 L1 L2 s1 o1 o2 => ?_⟩
    refine ⟨F1, L1, E1, cur, rl.on s1 sub_r o1, Bs.bindS s1 q1 fun d' E2 q2 u H2 F2 L1' L2' s2 s3 o3 o4 => ?_⟩
    split at q2
    · rename_i dd e
      cases d' with
      | int lo =>
        refine ⟨lo, own_int o4, ?_⟩
        have i3 := s3.ok.inH
        refine oa_cut F2 H2 d v L2 (some lo) none dd _ s3.ok.fH (fun p hp => i3 p (List.mem_append_left _ hp)) (o2.mono s2.ff) e fun v' H' rs => ?_
        have s4 := s3.sub (L'' := L1') (sub_r.trans sub_r)
        obtain ⟨F3, L3, s5, o5⟩ := rs.owned s4.ok
        exact q2 v' H' F3 L1' L3 (s4.trans s5) (o3.mono s5.ff) o5
      | _ => cases e
    · exact q2.elim
theorem evs_three {call : Nat → List D → Rr} {cur : Cur} {a b e : M} {E : En} {β : Type} (f : List D → En → R β) : (evs call cur (.cons a (.cons b (.cons e .nil))) E).bind f = (ev call cur a E).bind fun d E1 => (ev call cur b E1).bind fun d' E2 => (ev call cur e E2).bind fun d'' E3 => f [d, d', d''] E3 := by
  rw [evs_cons, R.bind_assoc]
  congr 1
  funext d E1
  rw [R.bind_assoc]
  exact evs_two fun ds E2 => f (d :: ds) E2
theorem ge_cut11 {a l h : Expr} {ma ml : M} {sh : Sx} (ha : GE Γ a ma) (hl : GE Γ l ml) (hh : GX Γ h sh) : GE Γ (.Subscript a (.Slice (some l) (some h) none p2) pos) (.aop (.cut true true) (.cons ma (.cons ml (.cons (.sx sh) .nil)))) := fun X W c =>
  PE.imp (pe_slice sl_all (ha X W c) (po_some (hl X W c)) (po_some (ge_sx hh X W c))) fun σ H Q h => by
    obtain ⟨F, L, E, cur, rl, q⟩ := h
    rw [ev_aop, evs_three] at q
    refine ⟨F, L, E, cur, rl, Bs.bind0 rl.ok q fun d E1 q1 v H1 F1 L1 L2 s1 o1 o2 => ?_⟩
    refine ⟨F1, L1, E1, cur, rl.on s1 sub_r o1, Bs.bindS s1 q1 fun d' E2 q2 u H2 F2 L1' L2' s2 s3 o3 o4 => ?_⟩
    have r2 : Rel Γ X cur E2 F2 L1' σ H2 := ⟨s2.ok.sub sub_r, o3, (rl.cur.mono s1.ff).mono s2.ff, fun P h => s2.tab P (s1.tab P (rl.tab P h)), rl.hv⟩
    cases d' with
    | int lo =>
      refine ⟨lo, own_int o4, ?_⟩
      have s3' : Step F L H F2 ((L2 ++ L2') ++ L1') H2 := by
        rw [List.append_assoc]
        exact s3
      refine ⟨F2, L1', E2, cur, r2, Bs.bindS s3' q2 fun d'' E3 q3 z H3 F3 M1 M2 s4 s5 o5 o6 => ?_⟩
      split at q3
      · rename_i dd e
        cases d'' with
        | int hi =>
          refine ⟨hi, own_int o6, ?_⟩
          have i3 := s5.ok.inH
          refine oa_cut F3 H3 d v L2 (some lo) (some hi) dd _ s5.ok.fH (fun p hp => i3 p (List.mem_append_left _ (List.mem_append_left _ hp))) ((o2.mono s2.ff).mono s4.ff) e fun v' H' rs => ?_
          have s6 := s5.sub (L'' := M1) (sub_r.trans sub_r)
          obtain ⟨F4, L4, s7, o7⟩ := rs.owned s6.ok
          exact q3 v' H' F4 M1 L4 (s6.trans s7) (o5.mono s7.ff) o7
        | _ => cases e
      · exact q3.elim
    | _ =>
      exfalso
      have q2 : Bs Γ X W σ F L H (ro X) (R.bind (match sv cur E2 sh with
        | some d => if d.fz = true then R.ok d E2 else R.bad
        | none => R.bad) _) Q := q2
      cases e : sv cur E2 sh with
      | none =>
        rw [e] at q2
        exact q2
      | some dd =>
        rw [e] at q2
        dsimp only at q2
        by_cases hf : dd.fz = true
        · rw [if_pos hf] at q2
          exact q2
        · rw [if_neg hf] at q2
          exact q2
/-- -e, e made -/
theorem ge_neg {a : Expr} {ma : M} (ha : GE Γ a ma) : GE Γ (.UnaryOp .USub a pos) (.op .neg (.cons ma .nil)) := fun X W c =>
  PE.imp (pe_un un_neg (ha X W c)) fun σ H Q h => by
    obtain ⟨F, L, E, cur, rl, q⟩ := h
    rw [ev_op, evs_one] at q
    refine ⟨F, L, E, cur, rl, Bs.bind0 rl.ok q fun d E1 q1 v H1 F1 L1 L2 s1 o1 o2 => ?_⟩
    split at q1
    · rename_i dd e
      have i1 := s1.ok.inH
      exact os_neg F1 H1 d v L2 dd _ s1.ok.fH (fun p hp => i1 p (List.mem_append_left _ hp)) o2 e fun v' L' hl o' => q1 v' H1 F1 L1 L' (s1.sub (List.Sublist.append hl (List.Sublist.refl _))) o1 o'
    · exact q1.elim
end
end VM

/-! Part R: tuple(element for x in row), row a tuple of ints, one captured name. -/
namespace VM
open PySem PySem.Spec PyProof.Rows L2

/-- the module's names and the captured int stand in this heap -/
def SeesI (X : Cx) (y : Str) (b : Int) (h : Heap) : Prop := h.Ns mainGlobals X.mg ∧ ∃ c t, X.env.cells.lookup y = some c ∧ h.IsCell c (some (.int b t))
def EltI (X : Cx) (scope : Scope) (x y : Str) (b : Int) (elt : Expr) (f : Int → Int) : Prop :=
  ∀ (C bi : Addr) (code : Value) (A' : Around) (E' : Value → Shared → Prop) (a : Int) (t : Tok) (z : Shared) (m : Str → Option Value), SeesI X y b z.heap → z.heap.Ns C m → m x = some (.int a t) →
    wpAny (model X.prog X.w) A' (eval elt (genEnv scope (cloFrom X.env.cells scope.names []) C code bi X.env)) (fun u z' => (∃ t', u = .int (f a) t') ∧ Keeps z z') E' z
/-- what is known once the generator stands: it gives the f a's; when it has run, all is as in H1 but for the table -/
def GenI (X : Cx) (pins : List (Addr × Obj)) (σ : L2.St) (H1 : Hp) (P : Addr) (ws : List Int) (f : Int → Int) (g : Addr) (z : Shared) : Prop :=
  ∃ fp wr G F St, WalksS X.prog X.w X.A.in4 g fp wr G ws.length F St ∧ St 0 z ∧ (∀ b ∈ fp, b < z.heap.objs.size) ∧ g ∈ fp ∧ (∀ i y, St i y → y.TypeIs (.ref g) "generator") ∧
    (∀ j v, F j v → ∃ a t, ws[j]? = some a ∧ v = .int (f a) t) ∧ ∀ y, Moved wr G z y → ∃ H2, GxR.Tabbed P H1 H2 ∧ Inv X pins σ H2 y
section
variable {X : Cx} {pins : List (Addr × Obj)} {σ : L2.St} {H1 : Hp} {z : Shared}
theorem sees_of (I : Inv X pins σ H1 z) {i : Nat} {y : Str} {b : Int} (hN : X.N[i]? = some y) (hσ : σ[i]? = some (some (.int b))) (hk : X.env.kindOf y = some .cell) : SeesI X y b z.heap := by
  refine ⟨I.mod.glob.keeps I.bk, ?_⟩
  obtain ⟨m, _, hl⟩ := I.loc
  obtain ⟨u, ru, hu⟩ := hl i y (.int b) hN hσ (.inr (.inl hk))
  obtain ⟨t, rfl⟩ := (show ∃ t, u = Value.int b t from ru)
  rcases hu with ⟨h1, _⟩ | ⟨_, c, h2, h3⟩
  · rw [hk] at h1
    cases h1
  · exact ⟨c, t, h2, h3⟩
/-- behind the walked tuple: the generator is made -/
theorem gen_made {c P a : Addr} {elt : Expr} {x y : Str} {b : Int} {gpos : Pos} {scope : Scope} {f : Int → Int} {Q' : Value → Shared → Prop} {ws : List Int}
    (TB : GxR.TabB X.base X.mg c P) (hcode : X.env.code = .ref c) (hel : EltI X scope x y b elt f) (I : Inv X pins σ H1 z) (hs : SeesI X y b z.heap) (hT : SqT X.K H1 a (ws.map V.int)) (hG : GxR.TabG H1 P)
    (hQ : ∀ g y, GenI X pins σ H1 P ws f g y → Q' (.ref g) y) :
    wpAny (model X.prog X.w) X.A (pyIter (.ref a)) (fun it z2 => z2.heap.NoLimit ∧
      wpAny (model X.prog X.w) X.A (genexprCode X.env gpos (X.env.qual ++ "<genexpr>") scope) (fun code z3 => wpAny (model X.prog X.w) X.A (builtinsFor X.env.globals X.env.builtins) (fun bi z4 =>
        ∃ I fp wr n₀ Pv St₀ pz F, it = .ref I ∧ (∀ A' : Around, A'.handled = none → Walks X.prog X.w A' I fp wr n₀ Pv St₀) ∧ St₀ 0 z4.heap ∧ (∀ b ∈ fp, b < z4.heap.objs.size) ∧ z4.heap.NoLimit ∧ cStatics ∉ wr ∧
          (∀ href : Heap, (∀ b o, z4.heap.get? b = some o → href.get? b = some o) → QuietGen X.prog X.w (genEnv scope (cloFrom X.env.cells scope.names []) z4.heap.objs.size code bi X.env) x [] elt (List.range z4.heap.objs.size) wr Pv pz F href) ∧
          (∀ g h5 tk gs, gs.bare = true → z4.heap.objs.size < g → h5.objs.size = g + 1 → (∀ b o, z4.heap.get? b = some o → h5.get? b = some o) →
            WalksS X.prog X.w X.A.in4 g (g :: z4.heap.objs.size :: List.range z4.heap.objs.size) (z4.heap.objs.size :: wr) (GenOnlyQ z4.gens.size) (passing pz n₀ 0).length
              (fun j y => ∃ i, (passing pz n₀ 0)[j]? = some i ∧ F i y) (GenAt X.prog X.w X.A.in4 g z4.gens.size z4.heap.objs.size (List.range z4.heap.objs.size) wr pz n₀ F) →
            GenAt X.prog X.w X.A.in4 g z4.gens.size z4.heap.objs.size (List.range z4.heap.objs.size) wr pz n₀ F 0 { z4 with gens := z4.gens.push gs, toks := tk, heap := h5 } →
            Q' (.ref g) { z4 with gens := z4.gens.push gs, toks := tk, heap := h5 })) X.xe z3) X.xe z2) X.xe z := by
  obtain ⟨ps, hP, hok⟩ := hG
  obtain ⟨its, rv, it, _⟩ := I.tuple hT
  have nits : its.length = ws.length := by rw [← rv.length, List.length_map]
  have vals : ∀ (i : Nat) (v : Value), its.toArray[i]? = some v → ∃ n t, ws[i]? = some n ∧ v = .int n t := fun i v hv => by
    rw [List.getElem?_toArray] at hv
    cases hn : ws[i]? with
    | none =>
      rw [List.getElem?_eq_none_iff, ← nits] at hn
      rw [List.getElem?_eq_none_iff.mpr hn] at hv
      cases hv
    | some n =>
      obtain ⟨u, hu, ru⟩ := rv.get (i := i) (x := .int n) (by rw [List.getElem?_map, hn] <;> rfl)
      rw [hv] at hu
      cases hu
      obtain ⟨t, e⟩ := (show ∃ t, v = Value.int n t from ru)
      exact ⟨n, t, rfl, e⟩
  refine wpAny_pyIter_tuple it ?_
  obtain ⟨N, hN⟩ : ∃ N, N = z.heap.objs.size := ⟨_, rfl⟩
  obtain ⟨w, hw⟩ : ∃ w, w = z.heap.push { cls := .type "tuple_iterator", data := .fields #[.ref a, .int 0 0] } := ⟨_, rfl⟩
  rw [← hN, ← hw]
  have wi : w.IsTupleIter N a 0 := by
    rw [hw, hN]
    exact ⟨_, Heap.get?_push_size _ rfl, rfl, rfl⟩
  have wk : ∀ b o, z.heap.get? b = some o → w.get? b = some o := fun b o e => by
    rw [hw]
    exact Heap.get?_push_of_some _ e
  have ws1 : w.objs.size = N + 1 := by
    rw [hw, hN, Heap.size_push]
  have aN : a < N := by
    obtain ⟨_, e, _⟩ := id it
    rw [hN]
    exact Heap.lt_size e
  have gP : z.heap.get? P = some { cls := .none, data := .fields ps } := I.hok P _ hP
  have PN : P < N := by
    rw [hN]
    exact Heap.lt_size gP
  have lw : w.NoLimit := by
    rw [hw]
    exact I.nolimit.push _
  have cd : PySem.W.CodeHd w c P := TB.code.keeps fun b u e => wk b u (I.bk b u e)
  have aP : a ≠ P := fun e => by
    obtain ⟨o, e1, e2, _⟩ := id it
    rw [e, gP] at e1
    cases e1
    cases e2
  have sP : cStatics ≠ P := fun e => by
    obtain ⟨_, hns, _⟩ := I.nolimit
    obtain ⟨o, es, ep, ho, hd, _⟩ := hns
    rw [e, gP] at ho
    cases ho
    cases hd
  have sN : cStatics < N := by
    rw [hN]
    exact let ⟨_, hns, _⟩ := I.nolimit; hns.lt
  refine ⟨lw, ?_⟩
  have rest : ∀ (code : Value) (h3 : Heap) (tk : Nat) (ps' : Array Value), Heap.ExtBut P w h3 → N + 1 ≤ h3.objs.size → h3.get? P = some { cls := .none, data := .fields ps' } → (∃ more, ps' = ps ++ more) → TriplesOk ps'.toList →
      wpAny (model X.prog X.w) X.A (builtinsFor X.env.globals X.env.builtins) (fun bi z4 =>
        ∃ I fp wr n₀ Pv St₀ pz F, Value.ref N = .ref I ∧ (∀ A' : Around, A'.handled = none → Walks X.prog X.w A' I fp wr n₀ Pv St₀) ∧ St₀ 0 z4.heap ∧ (∀ b ∈ fp, b < z4.heap.objs.size) ∧ z4.heap.NoLimit ∧ cStatics ∉ wr ∧
          (∀ href : Heap, (∀ b o, z4.heap.get? b = some o → href.get? b = some o) → QuietGen X.prog X.w (genEnv scope (cloFrom X.env.cells scope.names []) z4.heap.objs.size code bi X.env) x [] elt (List.range z4.heap.objs.size) wr Pv pz F href) ∧
          (∀ g h5 tk gs, gs.bare = true → z4.heap.objs.size < g → h5.objs.size = g + 1 → (∀ b o, z4.heap.get? b = some o → h5.get? b = some o) →
            WalksS X.prog X.w X.A.in4 g (g :: z4.heap.objs.size :: List.range z4.heap.objs.size) (z4.heap.objs.size :: wr) (GenOnlyQ z4.gens.size) (passing pz n₀ 0).length
              (fun j y => ∃ i, (passing pz n₀ 0)[j]? = some i ∧ F i y) (GenAt X.prog X.w X.A.in4 g z4.gens.size z4.heap.objs.size (List.range z4.heap.objs.size) wr pz n₀ F) →
            GenAt X.prog X.w X.A.in4 g z4.gens.size z4.heap.objs.size (List.range z4.heap.objs.size) wr pz n₀ F 0 { z4 with gens := z4.gens.push gs, toks := tk, heap := h5 } →
            Q' (.ref g) { z4 with gens := z4.gens.push gs, toks := tk, heap := h5 })) X.xe { z with heap := h3, toks := tk } := by
    intro code h3 tk ps' hx hsz h3P hmore htr
    have k3 : ∀ b o, b ≠ P → z.heap.get? b = some o → h3.get? b = some o := fun b o hb e => hx b o hb (wk b o e)
    obtain ⟨bm, ob, e1, e2, e3, e4, e5, e6, e7, e8⟩ := TB.bm
    have g3 : h3.Ns X.env.globals X.mg := by
      rw [I.ok.glob]
      exact Heap.Ns.extBut (Heap.Ns.keeps (I.mod.glob.keeps I.bk) wk) hx TB.gP
    refine wpAny_builtinsFor g3 e1 e2 (k3 _ _ e4 (I.bk _ _ e5)) e6 e7 e8 ?_
    have it3 : h3.IsTuple a its.toArray := by
      obtain ⟨o, q, r⟩ := id it
      exact ⟨o, k3 _ _ aP q, r⟩
    have wi3 : h3.IsTupleIter N a 0 := by
      obtain ⟨o, q, r⟩ := wi
      exact ⟨o, hx _ _ (Nat.ne_of_gt PN) q, r⟩
    refine ⟨N, [N, a], [N], its.toArray.size, fun i v => its.toArray[i]? = some v, fun i h => h.IsTupleIter N a i ∧ h.IsTuple a its.toArray, fun _ => true, fun i u => ∃ n t, ws[i]? = some n ∧ u = .int (f n) t, rfl,
      fun A' hA => Walks.tuple hA _ _ (Nat.ne_of_lt aN) _, ⟨wi3, it3⟩, fun b hb => ?_, lw.extBut hx sP, fun hb => ?_, fun href hk => ⟨?_, ?_⟩, ?_⟩
    · show b < h3.objs.size
      simp only [List.mem_cons, List.not_mem_nil, or_false] at hb
      rcases hb with rfl | rfl
      · exact hsz
      · exact Nat.lt_trans aN hsz
    · exact absurd (List.mem_singleton.mp hb) (Nat.ne_of_lt sN)
    · intro A' E' i v z2 m _ _ _ _ _
      rw [List.forIn_nil]
      exact wpAny_pure ⟨rfl, GxR.keeps_refl _⟩
    · intro A' E' i v z2 m _ hv _ hn hm kp
      obtain ⟨n, t, hn2, rfl⟩ := vals i v hv
      have at2 : ∀ b o, b ≠ P → z.heap.get? b = some o → z2.heap.get? b = some o := fun b o hb e => by
        have bN : b < N := by
          rw [hN]
          exact Heap.lt_size e
        refine kp b (List.mem_range.mpr (Nat.lt_of_lt_of_le bN (Nat.le_of_succ_le hsz))) (fun q => Nat.ne_of_lt bN (List.mem_singleton.mp q)) o (hk b o (k3 b o hb e))
      have s2 : SeesI X y b z2.heap := by
        obtain ⟨⟨o, es, ep, q1, q2⟩, cc, ct, q3, oc, q4, q5⟩ := hs
        refine ⟨⟨o, es, ep, at2 _ _ TB.gP q1, q2⟩, cc, ct, q3, oc, at2 _ _ (fun e => ?_) q4, q5⟩
        rw [e, gP] at q4
        cases q4
        cases q5
      refine wpAny_mono (hel _ _ _ A' E' n t z2 m s2 hn hm) (fun u z3 r => ?_) fun _ _ e => e
      obtain ⟨⟨t2, e⟩, kk⟩ := r
      exact ⟨⟨n, t2, hn2, e⟩, kk⟩
    · intro g h5 tk5 gs hb hlt h5s k5 W5 at5
      simp only [GxR.passing_true, List.length_range, List.size_toArray, nits] at W5 at5
      refine hQ g _ ⟨_, _, _, _, _, W5, at5, fun b hb => ?_, List.mem_cons_self, fun i q hq => hq.1.typeIs, fun j v hv => ?_, fun q hm => ?_⟩
      · show b < h5.objs.size
        have l3 : h3.objs.size < g := hlt
        rw [h5s]
        simp only [List.mem_cons, List.mem_range] at hb
        rcases hb with rfl | rfl | hb
        · exact Nat.lt_succ_self _
        · exact Nat.lt_succ_of_lt l3
        · have : b < h3.objs.size := hb
          exact Nat.lt_succ_of_lt (Nat.lt_trans this l3)
      · obtain ⟨i, hi, r⟩ := hv
        obtain ⟨hj, ej⟩ := List.getElem?_eq_some_iff.mp hi
        rw [List.getElem_range] at ej
        rw [← ej] at r
        obtain ⟨n, t, r1, r2⟩ := r
        exact ⟨n, t, r1, r2⟩
      · obtain ⟨more, em⟩ := hmore
        have notin : ∀ b o, z.heap.get? b = some o → b ∉ h3.objs.size :: [N] := fun b o e hb => by
          have bN : b < N := by
            rw [hN]
            exact Heap.lt_size e
          simp only [List.mem_cons, List.not_mem_nil, or_false] at hb
          rcases hb with rfl | rfl
          · exact absurd bN (Nat.not_lt.mpr (Nat.le_of_succ_le hsz))
          · exact Nat.lt_irrefl _ bN
        have J := GxR.inv_tab (more := more) (h' := q.heap) (g' := q.gens) (d' := q.drawn) (t' := q.toks) I hP (fun b o hb e => hm.heap b o (notin b o e) (k5 b o (k3 b o hb e)))
          (by rw [← em]; exact hm.heap P _ (notin P _ gP) (k5 P _ h3P)) (AllBare.movedS (I.bare.push hb) hm)
        rw [GxR.sh_eta z q hm.os] at J
        exact ⟨_, ⟨⟨ps ++ more, upd_same, by rw [← em]; exact htr⟩, fun b hb => upd_ne hb⟩, J⟩
  have wP : w.get? P = some { cls := .none, data := .fields ps } := wk _ _ gP
  cases hf : codeAmong gpos ps.toList with
  | none =>
    refine wpAny_genexprCodeX hcode (cd.code wP hok) (cd.tab wP) hf fun c' h' tk hx hge hlt hco' _ htab' _ => ?_
    obtain ⟨o1, vs, f1, tf, fl, tg, inF, tx, tt, op, _, _, _, _, _, _, _, _, _, htr, _⟩ := hco'
    rw [ws1] at hge
    exact rest _ h' tk _ hx (Nat.le_trans hge (Nat.le_of_lt hlt)) htab'.2 ⟨_, rfl⟩ htr
  | some cv =>
    refine wpAny_genexprCode_hit hcode (cd.code wP hok) hf ?_
    exact rest cv w z.toks ps (Heap.ExtBut.refl _ _) (Nat.le_of_eq ws1.symm) wP ⟨#[], by simp⟩ hok
end
end VM
namespace VM
open PySem PySem.Spec PyProof.Rows L2
theorem vals_at : ∀ {xs : List V} {us : List Value}, xs.length = us.length → (∀ (j : Nat) x u, xs[j]? = some x → us[j]? = some u → RelV x u) → Vals xs us
  | [], [], _, _ => .nil
  | [], _ :: _, h, _ => by cases h
  | _ :: _, [], h, _ => by cases h
  | x :: xs, u :: us, h, r => .cons (r 0 x u rfl rfl) (vals_at (Nat.succ.inj h) fun j y v h1 h2 => r (j + 1) y v h1 h2)
section
variable {X : Cx}
/-- tuple(elt for x in row) -/
theorem pe_tupG {c P : Addr} {elt iter : Expr} {x y : Str} {i : Nat} {px p pos gpos : Pos} {scope : Scope} {f : Int → Int → Int} {te : TE} {k : Nat} (hr : Room k X.A) (hg : Gl X "tuple") (hm : X.mg "tuple" = none) (TB : GxR.TabB X.base X.mg c P) (hcode : X.env.code = .ref c)
    (S : GxR.GenS X.env scope x) (hi : PE X iter te) (hel : ∀ b, EltI X scope x y b elt (f b)) (hN : X.N[i]? = some y) (hk : X.env.kindOf y = some .cell) (hs : ∀ v, genFold iter X.env v = pure v)
    (he : starEach [.GeneratorExp elt [⟨.Name x px, iter, [], 0⟩] scope gpos] X.env = (false, eval (.GeneratorExp elt [⟨.Name x px, iter, [], 0⟩] scope gpos) X.env) :: starEach [] X.env := by rfl) :
    PE X (.Call (.Name "tuple" p) [.GeneratorExp elt [⟨.Name x px, iter, [], 0⟩] scope gpos] [] pos) (fun σ H Q => ∃ b, σ[i]? = some (some (.int b)) ∧ te σ H fun v H1 => ∃ (a : Addr) (ws : List Int), v = .ref a ∧ SqT X.K H1 a (ws.map V.int) ∧ GxR.TabG H1 P ∧ ∀ H2, GxR.Tabbed P H1 H2 → ∀ t, H2 t = none → Q (.ref t) (upd H2 t (.tup (ws.map fun a => V.int (f b a))))) := by
  refine ⟨fun pins s σ H Q I h => ?_⟩
  obtain ⟨b, hb, h⟩ := h
  refine wpAny_Call_Name_kw (ld_blt I hg hm boot_tuple ?_)
  refine PyProof.Rows.callWith_type1 ?_ he (by rfl)
  rw [he]
  show wpAny _ _ (spliced ((false, eval (.GeneratorExp elt [⟨.Name x px, iter, [], 0⟩] scope gpos) X.env) :: backTo pos (starEach [] X.env))) _ _ s
  refine Calls.spliced_cons (wpAny_mono (Q := fun u z => ∃ g H1 ws, u = .ref g ∧ GenI X pins σ H1 P ws (f b) g z ∧ ws.length ≤ sizeLine ∧ ∀ H2, GxR.Tabbed P H1 H2 → ∀ t, H2 t = none → Q (.ref t) (upd H2 t (.tup (ws.map fun a => V.int (f b a)))))
    (wpAny_GeneratorExp_walksQ hr.hd S.co (closure_ok S.free) S.cell S.dot S.loc S.kind (by have := hr.dp; omega) (thn (hi.run pins s σ H _ I h) fun xv s1 ⟨v, H1, I1, r1, q1⟩ => ?_) hs) (fun u z hz => ?_) fun _ _ e => e)
  · obtain ⟨a, ws, rfl, hT, hG, hQ⟩ := q1
    obtain rfl : xv = Value.ref a := r1
    have hlen : ws.length ≤ sizeLine := by
      obtain ⟨its, _, _, q⟩ := I1.tuple hT
      rw [List.length_map] at q
      exact q
    exact gen_made (Q' := fun u z => ∃ g H1 ws, u = .ref g ∧ GenI X pins σ H1 P ws (f b) g z ∧ ws.length ≤ sizeLine ∧ ∀ H2, GxR.Tabbed P H1 H2 → ∀ t, H2 t = none → Q (.ref t) (upd H2 t (.tup (ws.map fun a => V.int (f b a)))))
      TB hcode (hel b) I1 (sees_of I1 hN hb hk) hT hG fun g z hz => ⟨g, H1, ws, rfl, hz, hlen, hQ⟩
  obtain ⟨g, H1, ws, rfl, hz, hlen, hQ⟩ := hz
  refine Calls.spliced_nil ?_
  obtain ⟨fp, wr, G, F, St, W, hst, hfp, hgm, hty, hF, hinv⟩ := hz
  refine call_tuple_gen (W.in4_3) hty hst hfp hgm (fun z' acc hmv hacc => ?_) hlen
  obtain ⟨H2, ht, J⟩ := hinv z' hmv
  have hn : H2 z'.heap.objs.size = none := J.hok.fresh (Nat.le_refl _)
  have rv : Vals (ws.map fun a => V.int (f b a)) acc.toList := by
    refine vals_at ((List.length_map _).trans (show ws.length = acc.toList.length from hacc.1.symm)) fun j x u h1 h2 => ?_
    obtain ⟨a', t', e1, e2⟩ := hF j u (hacc.2 j u (by rw [← Array.getElem?_toList]; exact h2))
    rw [List.getElem?_map, e1] at h1
    cases h1
    rw [e2]
    exact ⟨t', rfl⟩
  exact ⟨.ref z'.heap.objs.size, _, J.laid (t' := z'.toks) (o := .tup (ws.map fun a => V.int (f b a))) (fun b u e => Heap.get?_push_of_some _ e) (Nat.le_refl _) ⟨by rw [List.length_map]; exact hlen, acc.toList, rv, ⟨_, Heap.get?_push_size _ rfl, rfl, 0, by show Data.seq acc 0 = Data.seq acc.toList.toArray 0; rw [Array.toArray_toList]⟩⟩, rfl, hQ H2 ht _ hn⟩
/-- (x + y) % m -/
theorem elt_addmod {scope : Scope} {x y g : Str} {b m : Int} {t : Tok} {p1 p2 p3 p4 p5 : Pos} (hk : scope.kind = .function) (hx : scope.names.lookup x = some .local) (hy : scope.names.lookup y = some .free) (hg : scope.names.lookup g = some .globalImplicit)
    (hclo : ∀ c, X.env.cells.lookup y = some c → (cloFrom X.env.cells scope.names []).lookup y = some c) (hglob : X.env.globals = mainGlobals) (hm : X.mg g = some (.int m t)) (hpos : 0 < m)
    (d1 : (x == ("__debug__" : Str)) = false := by decide) (d2 : (y == ("__debug__" : Str)) = false := by decide) (d3 : (g == ("__debug__" : Str)) = false := by decide) (d4 : (y == ("__classdict__" : Str)) = false := by decide) :
    EltI X scope x y b (.BinOp (.BinOp (.Name x p1) .Add (.Name y p2) p3) .Mod (.Name g p4) p5) fun a => (a + b) % m := by
  intro C bi code A' E' a ta z mm hs hn hv
  obtain ⟨h1, c, tc, h2, h3⟩ := hs
  have kof : ∀ n, (genEnv scope (cloFrom X.env.cells scope.names []) C code bi X.env).kindOf n = scope.names.lookup n := fun _ => rfl
  refine wpAny_BinOp (wpAny_BinOp (wpAny_Name (wpAny_loadName_local hk (by rw [kof]; exact hx) hn hv ?_) d1))
  refine wpAny_Name (wpAny_loadName_free hk (by rw [kof]; exact hy) (hclo c h2) h3 ?_ d4) d2
  refine add_int ?_
  refine Calls.Name_function_global hk (by rw [kof]; exact hg) (Calls.loadGlobal_global (by show (Heap.Ns _ X.env.globals X.mg); rw [hglob]; exact h1) hm ?_) d3
  refine mod_int' (by omega) ?_
  exact ⟨⟨_, congrArg (fun n => Value.int n _) (Int.fmod_eq_emod_of_nonneg _ (by omega))⟩, GxR.keeps_tok z _⟩
theorem intsOf_own {K : PySem.W.Frag} {F : Hp} : ∀ {ds : List D} {ws : List Int} {vs : List V}, intsOf ds = some ws → OwnL K F ds vs [] → vs = ws.map V.int
  | [], ws, vs, e, h => by
    cases e
    exact h.1
  | .int n :: ds, ws, vs, e, h => by
    have e : (intsOf ds).map (n :: ·) = some ws := e
    obtain ⟨v, r, L1, L2, rfl, q, h3, h4⟩ := h
    obtain ⟨us, e2, rfl⟩ := Option.map_eq_some_iff.mp e
    obtain ⟨rfl, rfl⟩ := List.append_eq_nil_iff.mp q.symm
    rw [h3.1, intsOf_own e2 h4] <;> rfl
  | .non :: _, _, _, e, _ => by cases e
  | .bl _ :: _, _, _, e, _ => by cases e
  | .str _ :: _, _, _, e, _ => by cases e
  | .tup _ :: _, _, _, e, _ => by cases e
  | .lst _ _ :: _, _, _, e, _ => by cases e
  | .scr _ :: _, _, _, e, _ => by cases e
  | .dct _ _ _ :: _, _, _, e, _ => by cases e
  | .ins _ _ _ _ :: _, _, _, e, _ => by cases e
  | .err _ _ :: _, _, _, e, _ => by cases e
theorem own_ints {K : PySem.W.Frag} {F : Hp} (f : Int → Int) : ∀ ws : List Int, OwnL K F (ws.map fun a => D.int (f a)) (ws.map fun a => V.int (f a)) []
  | [] => ⟨rfl, rfl⟩
  | w :: ws => ⟨_, _, [], [], rfl, rfl, ⟨rfl, rfl⟩, own_ints f ws⟩
/-- a step that only lets the table grow -/
theorem Step.tabbed {F : Hp} {L : Fp} {H H2 : Hp} {P : Addr} (ok : Ok F L H) (hP : GxR.TabG H P) (t : GxR.Tabbed P H H2) : Step F L H F L H2 := by
  obtain ⟨⟨ps, h1, h2⟩, h3⟩ := t
  obtain ⟨qs, h4, h5⟩ := hP
  have ne : ∀ a o, H a = some o → NT o → H2 a = some o := fun a o h n => by
    by_cases e : a = P
    · rw [e, h4] at h
      exact absurd (Option.some.inj h).symm (n qs)
    · rw [h3 a e]
      exact h
  refine ⟨⟨fun a o h => ne a o (ok.fH a o h) (ok.ntF a o h), fun p hp => ne _ _ (ok.inH p hp) (ok.nt p hp), ok.nd, ok.dj, ok.nt, ok.ntF⟩, fun _ _ h => h, fun a o h n _ => ne a o h n, fun p hp => .inl ⟨p, hp, rfl⟩, fun a o h => .inl h, fun a h => ?_, fun Q hQ => ?_⟩
  · by_cases e : a = P
    · rw [e, h1] at h
      cases h
    · rw [← h3 a e]
      exact h
  · by_cases e : Q = P
    · rw [e]
      exact ⟨ps, h1, h2⟩
    · obtain ⟨q1, q2, q3⟩ := hQ
      exact ⟨q1, by rw [h3 Q e]; exact q2, q3⟩
end
/-- moved(row, by) -/
def fnMoved (m : Int) : Fn := ⟨2, 2, .cons (.ret (.gen 0 1 m)) .nil⟩
theorem run_succ {Pg : Nat → Option Fn} {Wn k f : Nat} {fn : Fn} (h : Pg f = some fn) (ds : List D) : run Pg Wn (k + 1) f ds = runFn (run Pg Wn k) Wn fn ds := by
  show (match Pg f with | some fn => runFn (run Pg Wn k) Wn fn ds | none => Rr.bad) = _
  rw [h]
theorem run_moved {Pg : Nat → Option Fn} {Wn k f : Nat} {m : Int} (h : Pg f = some (fnMoved m)) (d0 d1 : D) : run Pg Wn (k + 1) f [d0, d1] = match d0, d1 with
    | .tup xs, .int b => (match intsOf xs with
      | some ws => if 0 < m then .ret (.tup (ws.map fun a => .int ((a + b) % m))) [.tup xs, .int b] else .bad
      | none => .bad)
    | _, _ => .bad := by
  rw [run_succ h]
  cases d0 with
  | tup xs =>
    cases d1 with
    | int b =>
      show (match (match (match (match intsOf xs with
          | some ws => if 0 < m then R.ok (D.tup (ws.map fun a => .int ((a + b) % m))) [some (.tup xs), some (.int b)] else R.bad
          | none => R.bad) with
        | R.ok d E1 => O.rt d E1
        | R.exc c d E1 => O.exc c d E1
        | R.bad => O.bad) with
        | O.nx E1 => O.nx E1
        | o => o) with
        | O.nx E => (match VM.fins [] E 0 [D.tup xs, D.int b] with
          | some ps => Rr.ret .non ps
          | none => Rr.bad)
        | O.rt d E => (match VM.fins [] E 0 [D.tup xs, D.int b] with
          | some ps => Rr.ret d ps
          | none => Rr.bad)
        | O.exc c d E => (match VM.fins [] E 0 [D.tup xs, D.int b] with
          | some ps => Rr.exc c d ps
          | none => Rr.bad)
        | _ => Rr.bad) = match intsOf xs with
        | some ws => if 0 < m then .ret (.tup (ws.map fun a => .int ((a + b) % m))) [.tup xs, .int b] else .bad
        | none => .bad
      cases intsOf xs with
      | none => rfl
      | some ws =>
        by_cases hm : 0 < m
        · dsimp only
          rw [if_pos hm, if_pos hm]
          rfl
        · dsimp only
          rw [if_neg hm, if_neg hm]
    | _ => rfl
  | _ => cases d1 <;> rfl
theorem moved_inv {Pg : Nat → Option Fn} {Wn k f : Nat} {m : Int} (h : Pg f = some (fnMoved m)) (d0 d1 : D) : run Pg Wn (k + 1) f [d0, d1] = .bad ∨
    ∃ xs b ws, d0 = .tup xs ∧ d1 = .int b ∧ intsOf xs = some ws ∧ run Pg Wn (k + 1) f [d0, d1] = .ret (.tup (ws.map fun a => .int ((a + b) % m))) [.tup xs, .int b] := by
  have e := run_moved (Wn := Wn) (k := k) h d0 d1
  rw [e]
  split
  · rename_i xs b
    cases hw : intsOf xs with
    | none => exact .inl rfl
    | some ws =>
      by_cases hm : 0 < m
      · exact .inr ⟨xs, b, ws, rfl, rfl, hw, by dsimp only; rw [if_pos hm]⟩
      · exact .inl (by dsimp only; rw [if_neg hm])
  · exact .inl rfl
theorem moved_ok {P : Program} {w : World} {K : PySem.W.Frag} {mg : Str → Option Value} {base : Heap} {tbs : Addr → Prop} {Pt : Addr} {enm : Nat → Option Str} {Pg : Nat → Option Fn} {Wn k lev f : Nat} {m : Int} {t : Tok} {x y r g : Str} {qual : Str} {params : Arguments} {gscope scope : Scope} {dvs : List V} {kws : List (Str × V)} {fd : FuncData} {p1 p2 p3 p4 p5 p6 p7 p8 p9 p10 p11 : Pos} {at_ : Str × Option Str} {nm : Str}
    (F : FunD K nm qual params [.Return (some (.Call (.Name "tuple" p1) [.GeneratorExp (.BinOp (.BinOp (.Name x p2) .Add (.Name y p3) p4) .Mod (.Name g p5) p6) [⟨.Name x p7, .Name r p8, [], 0⟩] gscope p9] [] p10)) p11] scope dvs kws (He.fAd K at_) fd)
    (TB : GxR.TabB base mg (He.codeOf K at_) Pt) (hPt : tbs Pt) (S : FnScope [r, y] [r, y] scope) (hP : Pg f = some (fnMoved m)) (hm : mg "tuple" = none) (hg : mg g = some (.int m t)) (hpos : 0 < m)
    (k1 : scope.names.lookup r = some .local) (k2 : scope.names.lookup y = some .cell) (k3 : scope.names.lookup ("tuple" : Str) = some .globalImplicit)
    (g1 : gscope.kind = .function) (g2 : gscope.isCoroutine = false) (g3 : gscope.names = [((".0" : Str), .local), (x, .local), (y, .free), (g, .globalImplicit)]) (n1 : (x == (".0" : Str)) = false) (n2 : (y == (".0" : Str)) = false) (n3 : (y == x) = false) (n4 : (g == (".0" : Str)) = false) (n5 : (g == x) = false) (n6 : (g == y) = false)
    (d1 : (x == ("__debug__" : Str)) = false := by decide) (d2 : (y == ("__debug__" : Str)) = false := by decide) (d3 : (g == ("__debug__" : Str)) = false := by decide) (d4 : (y == ("__classdict__" : Str)) = false := by decide) (d5 : (r == ("__debug__" : Str)) = false := by decide) (d6 : (r == ("__classdict__" : Str)) = false := by decide) :
    FnOk P w K mg base (L2.CX P w) (lev + 1) (He.fAd K at_) fd [r, y] (spRun K mg enm tbs (run Pg Wn (k + 1)) f) := by
  obtain ⟨oc, od, dV, kV, doc, pm, an, cdv, ct, osl, rfl, lk, hcd, _, _⟩ := F.ex
  obtain ⟨c, rfl⟩ := He.codeIn_ref hcd
  have hc : He.codeOf K at_ = c := He.codeOf_eq lk rfl
  rw [hc] at TB
  refine fn_of lk hcd S (spRun_len hP rfl) fun A outer s H vs Q E hr h => ?_
  have hv := spRun_len hP (n := 2) rfl vs H Q E h
  have lk1 : gscope.names.lookup x = some .local := by rw [g3, List.lookup_cons, n1, List.lookup_cons_self]
  have lk2 : gscope.names.lookup y = some .free := by rw [g3, List.lookup_cons, n2, List.lookup_cons, n3, List.lookup_cons_self]
  have lk3 : gscope.names.lookup g = some .globalImplicit := by rw [g3, List.lookup_cons, n4, List.lookup_cons, n5, List.lookup_cons, n6, List.lookup_cons_self]
  have gs : ∀ env : Env, (∃ c, env.cells.lookup y = some c) → GxR.GenS env gscope x := fun env hy => by
    refine ⟨g1, g2, fun q hq => ?_, ?_, lk1, fun q hq e => ?_⟩
    · rw [g3] at hq
      simp only [List.mem_cons, List.not_mem_nil, or_false] at hq
      rcases hq with rfl | rfl | rfl | rfl <;> simp
    · rw [g3, List.lookup_cons_self]
    · rw [g3] at hq
      simp only [List.mem_cons, List.not_mem_nil, or_false] at hq
      rcases hq with rfl | rfl | rfl | rfl
      · cases e
      · cases e
      · exact hy
      · cases e
  refine ⟨_, pss_one (ps_ret (pe_tupG (i := 1) (f := fun b a => (a + b) % m) hr (show scope.names.lookup ("tuple" : Str) = some .globalImplicit from k3) hm TB rfl (gs _ (cell_has k2)) (pe_var (i := 0) rfl (.inl k1) d5 d6) (fun b => elt_addmod g1 lk1 lk2 lk3 (fun c hc => ?_) rfl hg hpos d1 d2 d3 d4) rfl k2 (fun _ => rfl))), ?_⟩
  · rw [g3]
    show List.lookup y [(y, _)] = _
    rw [List.lookup_cons_self]
    show some ((List.lookup y _).getD 0) = _
    rw [hc] <;> rfl
  · obtain ⟨F0, L0, ds, ok, o, tb, q⟩ := h
    have hl : ds.length = 2 := o.length.trans hv
    match ds, hl, o, q with
    | [d0, d1], _, o, q =>
      rcases moved_inv (Wn := Wn) (k := k) hP d0 d1 with e | ⟨xs, b, ws, rfl, rfl, hw, e⟩
      · rw [e] at q
        exact q.elim
      · rw [e] at q
        obtain ⟨v0, r0, L1, L2, rfl, rfl, ⟨rfl, aa, us, rfl, hT, hU⟩, v1, r1, L3, L4, rfl, rfl, ⟨rfl, rfl⟩, rfl, rfl⟩ := o
        have e := intsOf_own hw hU
        subst e
        refine ⟨b, rfl, .ref aa, rfl, aa, ws, rfl, SqT_mono ok.fH hT, tb Pt hPt, fun H2 ht t hn => ?_⟩
        have s1 := Step.tabbed ok (tb Pt hPt) ht
        have s2 := Step.newFrozen s1.ok (.tup (ws.map fun a => V.int ((a + b) % m))) hn
        have s3 := s1.trans s2
        exact q (.ref t) _ _ [] [] s3 ⟨_, _, [], [], rfl, rfl, ⟨rfl, aa, _, rfl, SqT_mono s3.ff hT, OwnL.mono s3.ff _ _ _ hU⟩, ⟨_, _, [], [], rfl, rfl, ⟨rfl, rfl⟩, rfl, rfl⟩⟩ ⟨rfl, t, _, rfl, .inl (.inl upd_same), own_ints _ ws⟩
end VM

/-! Part S: from the head's facts to the law. -/
namespace VM
open PySem PySem.Spec PyProof.Rows L2
/-- each of a list, with its place -/
def AllI {α : Type} (P : Nat → α → Prop) : Nat → List α → Prop
  | _, [] => True
  | i, a :: r => P i a ∧ AllI P (i + 1) r
theorem allI_at {α : Type} {P : Nat → α → Prop} : ∀ {l : List α} {i j : Nat} {a : α}, AllI P i l → l[j]? = some a → P (i + j) a
  | [], _, _, _, _, h => by simp at h
  | b :: r, i, 0, a, h, e => by
    have e : b = a := by simpa using e
    rw [← e]
    exact h.1
  | b :: r, i, j + 1, a, h, e => by
    have z := allI_at (i := i + 1) (j := j) h.2 (by simpa using e)
    rw [show i + (j + 1) = i + 1 + j by omega]
    exact z
section
variable {T : Tab} {P : Program} {w : World} {K : PySem.W.Frag} {mg : Str → Option Value} {base : Heap} {tbs : Addr → Prop} {Pg : Nat → Option Fn} {Wn : Nat}
/-- one def keeps its promise if all do, one level below -/
def GoodAt (T : Tab) (P : Program) (w : World) (K : PySem.W.Frag) (mg : Str → Option Value) (base : Heap) (tbs : Addr → Prop) (Pg : Nat → Option Fn) (Wn f : Nat) (a : Addr) : Prop :=
  ∃ fd ps, Binds K fd ps [] ∧ ∀ k, AllOk T P w K mg base tbs (2 * k + 2) (run Pg Wn k) → FnG P w K mg base (2 * k + 4) a fd ps (spRun K mg T.enm tbs (run Pg Wn (k + 1)) f)
def Good (T : Tab) (P : Program) (w : World) (K : PySem.W.Frag) (mg : Str → Option Value) (base : Heap) (tbs : Addr → Prop) (Pg : Nat → Option Fn) (Wn f : Nat) (x : Str) : Prop :=
  mg x = some (.ref (He.fAd K (x, none))) ∧ PySem.W.keepIn K (.ref (He.fAd K (x, none))) = true ∧ GoodAt T P w K mg base tbs Pg Wn f (He.fAd K (x, none))
def GoodM (T : Tab) (P : Program) (w : World) (K : PySem.W.Frag) (mg : Str → Option Value) (base : Heap) (tbs : Addr → Prop) (Pg : Nat → Option Fn) (Wn f : Nat) (q : Str × Str) : Prop :=
  GoodAt T P w K mg base tbs Pg Wn f (He.fAd K (q.1, some q.2))
/-- the methods stand behind the n defs of the module -/
def mthAt (n : Nat) (mts : List (Str × Str)) (f : Nat) : Option (Str × Str) := if n ≤ f then mts[f - n]? else none
theorem all_of {nms : List Str} {n : Nat} {mts : List (Str × Str)} (hT : ∀ f, T.fnm f = nms[f]?) (hM : ∀ f, T.mth f = mthAt n mts f) (h : AllI (Good T P w K mg base tbs Pg Wn) 0 nms) (hm : AllI (GoodM T P w K mg base tbs Pg Wn) n mts) : ∀ k, AllOk T P w K mg base tbs (2 * k + 2) (run Pg Wn k) := by
  have at_ : ∀ {f x}, T.fnm f = some x → Good T P w K mg base tbs Pg Wn f x := fun {f x} e => by
    rw [hT] at e
    have z := allI_at h e
    rw [Nat.zero_add] at z
    exact z
  have atM : ∀ {f c m}, T.mth f = some (c, m) → GoodM T P w K mg base tbs Pg Wn f (c, m) := fun {f c m} e => by
    rw [hM] at e
    unfold mthAt at e
    split at e
    · rename_i hl
      have z := allI_at hm e
      rw [Nat.add_sub_cancel' hl] at z
      exact z
    · cases e
  intro k
  induction k with
  | zero =>
    refine ⟨fun f x e => ?_, fun f c m e => ?_⟩
    · obtain ⟨h1, h2, fd, ps, h3, _⟩ := at_ e
      exact ⟨_, fd, ps, h1, h2, h3, bad_ok⟩
    · obtain ⟨fd, ps, h3, _⟩ := atM e
      exact ⟨fd, ps, h3, bad_ok⟩
  | succ k ih =>
    refine ⟨fun f x e => ?_, fun f c m e => ?_⟩
    · obtain ⟨h1, h2, fd, ps, h3, h4⟩ := at_ e
      exact ⟨_, fd, ps, h1, h2, h3, h4 k ih⟩
    · obtain ⟨fd, ps, h3, h4⟩ := atM e
      exact ⟨fd, ps, h3, h4 k ih⟩
/-- the law's def -/
theorem law_ok {nms : List Str} {n : Nat} {mts : List (Str × Str)} (hT : ∀ f, T.fnm f = nms[f]?) (hM : ∀ f, T.mth f = mthAt n mts f) (h : AllI (Good T P w K mg base tbs Pg Wn) 0 nms) (hm : AllI (GoodM T P w K mg base tbs Pg Wn) n mts) {f : Nat} (k : Nat) {a : Addr} {fd : FuncData} {ps : List Str}
    (h4 : AllOk T P w K mg base tbs (2 * k + 2) (run Pg Wn k) → FnG P w K mg base (2 * k + 4) a fd ps (spRun K mg T.enm tbs (run Pg Wn (k + 1)) f)) : FnG P w K mg base (2 * k + 4) a fd ps (spRun K mg T.enm tbs (run Pg Wn (k + 1)) f) :=
  h4 (all_of hT hM h hm k)
/-- a plain def: of the module, of a class -/
theorem goodAt_of (Wd : Wld T P w K mg base) {d : He.DefD} {fd : FuncData} {N ps : List Str} {f : Nat} {fn : Fn} (F : FunD K d.name d.qual d.params d.body d.scope (d.dvs K) (d.kws K) (He.fAd K d.at_) fd)
    (S : FnScope N ps d.scope) (hP : Pg f = some fn) (hn : fn.np = ps.length) (hs : fn.ns = N.length) (hb : ∀ k, GB (T.cx N d.scope (run Pg Wn k) Wn (2 * k + 2) tbs) d.body fn.body) (b : Binds K fd ps []) : GoodAt T P w K mg base tbs Pg Wn f (He.fAd K d.at_) :=
  ⟨fd, ps, b, fun k AO => def_ok Wd AO F S hP hn hs (by omega) (hb k)⟩
theorem good_of (Wd : Wld T P w K mg base) {d : He.DefD} {fd : FuncData} {N ps : List Str} {f : Nat} {fn : Fn} (F : FunD K d.name d.qual d.params d.body d.scope (d.dvs K) (d.kws K) (He.fAd K d.at_) fd) (hat : d.at_ = (d.name, none)) (hm : mg d.name = some (.ref (He.fAd K (d.name, none))))
    (S : FnScope N ps d.scope) (hP : Pg f = some fn) (hn : fn.np = ps.length) (hs : fn.ns = N.length) (hb : ∀ k, GB (T.cx N d.scope (run Pg Wn k) Wn (2 * k + 2) tbs) d.body fn.body) (b : Binds K fd ps []) : Good T P w K mg base tbs Pg Wn f d.name := by
  have g := goodAt_of Wd F S hP hn hs hb b
  rw [hat] at F g
  exact ⟨hm, F.kp, g⟩
theorem leaves_none {H : Hp} {s : Shared} {e : Value} {s' : Shared} (h : L2.CX P w [] H s (fun _ _ _ => False) e s') : False := by
  obtain ⟨_, _, _, _, _, _, _, _, _, _, _, _, z⟩ := h
  exact z
/-- the abstract heap at the law's call: the tables ts, the script's list lo at a (where the text does not hold it) -/
def H0 (K : PySem.W.Frag) (a : Addr) (lo : Obj) (xs : List V) (ts : List Addr) : Hp := fun b => if b ∈ ts then some (.tbl #[]) else if b = a ∧ K.lookup a = none then some (.frz lo (.lst xs)) else none
theorem H0_inv {K : PySem.W.Frag} {a : Addr} {lo : Obj} {xs : List V} {ts : List Addr} {b : Addr} {u : HO} (h : H0 K a lo xs ts b = some u) : (b ∈ ts ∧ u = .tbl #[]) ∨ (b = a ∧ K.lookup a = none ∧ u = .frz lo (.lst xs)) := by
  unfold H0 at h
  split at h
  · rename_i m
    exact .inl ⟨m, (Option.some.inj h).symm⟩
  · split at h
    · rename_i m
      exact .inr ⟨m.1, m.2, (Option.some.inj h).symm⟩
    · cases h
/-- what a law's call needs of the state -/
structure Start (K : PySem.W.Frag) (mg : Str → Option Value) (cs : List (Addr × Addr)) (a : Addr) (vs : List Value) (ns : List Int) (s : Shared) : Prop where
  kin : K.In s.heap
  glob : s.heap.Ns mainGlobals mg
  blt : ∃ mb, s.heap.Ns builtinsNs mb ∧ ∀ x : Str, x ≠ "__name__" → mb x = bootBuiltins x
  lim : s.heap.NoLimit
  gens : s.gens = #[]
  empty : ∀ p ∈ cs, s.heap.get? p.2 = some { cls := .none, data := .fields #[] }
  out : ∀ p ∈ cs, K.lookup p.2 = none
  code : ∀ h : Heap, K.In h → ∀ p ∈ cs, PySem.W.CodeHd h p.1 p.2
  bmod : ∃ (bm : Addr) (ob : Obj), mg "__builtins__" = some (.ref bm) ∧ bm ≠ builtinsNs ∧ s.heap.get? bm = some ob ∧ ob.cls = .type "module" ∧ ob.dict = some builtinsNs ∧ ob.data = .plain
  list : s.heap.get? a = some { cls := .type "list", data := .seq vs.toArray }
  nums : IntsAre vs ns
  size : ns.length ≤ sizeLine
section
variable {cs : List (Addr × Addr)} {a : Addr} {vs : List Value} {ns : List Int} {s : Shared}
abbrev Start.hp (_ : Start K mg cs a vs ns s) : Hp := H0 K a { cls := .type "list", data := .seq vs.toArray } (ns.map V.int) (cs.map (·.2))
theorem Start.tab (S : Start K mg cs a vs ns s) {b : Addr} (h : b ∈ cs.map (·.2)) : s.heap.get? b = some { cls := .none, data := .fields #[] } ∧ K.lookup b = none := by
  obtain ⟨p, hp, rfl⟩ := List.mem_map.mp h
  exact ⟨S.empty p hp, S.out p hp⟩
theorem Start.apart (S : Start K mg cs a vs ns s) : a ∉ cs.map (·.2) := fun h => by
  have z := (S.tab h).1
  rw [S.list] at z
  have z := congrArg Obj.cls (Option.some.inj z)
  cases z
/-- what is neither a list nor a table is not tracked -/
theorem Start.none_of (S : Start K mg cs a vs ns s) {b : Addr} {o : Obj} (e : s.heap.get? b = some o) (h1 : o.cls ≠ .none ∨ o.data ≠ .fields #[]) (h2 : o.cls ≠ .type "list" ∨ ∀ n, o.data ≠ .seq vs.toArray n) : S.hp b = none := by
  cases q : S.hp b with
  | none => rfl
  | some u =>
    rcases H0_inv q with ⟨m, _⟩ | ⟨rfl, _, _⟩
    · rw [(S.tab m).1] at e
      cases e
      exact (h1.elim (fun z => z rfl) fun z => z rfl).elim
    · rw [S.list] at e
      cases e
      exact (h2.elim (fun z => z rfl) fun z => z _ rfl).elim
theorem Start.kept (S : Start K mg cs a vs ns s) {b : Addr} {m : Str → Option Value} (h : s.heap.Ns b m) : (hidT s.heap S.hp).Ns b m := by
  obtain ⟨o, es, ep, e, d, r⟩ := h
  refine ⟨o, es, ep, hidT_get e (S.none_of e (.inr fun z => ?_) (.inr fun n z => ?_)), d, r⟩
  · rw [d] at z; cases z
  · rw [d] at z; cases z
theorem Start.lay (S : Start K mg cs a vs ns s) : K.In (hidT s.heap S.hp) := fun b o e => hidT_get (S.kin b o e) (by
  cases q : S.hp b with
  | none => rfl
  | some u =>
    rcases H0_inv q with ⟨m, _⟩ | ⟨rfl, n, _⟩
    · rw [(S.tab m).2] at e; cases e
    · rw [n] at e; cases e)
theorem Start.tabB (S : Start K mg cs a vs ns s) : ∀ p ∈ cs, GxR.TabB (hidT s.heap S.hp) mg p.1 p.2 := fun p hp => by
  have tp := S.empty p hp
  have apart : ∀ {b : Addr} {o : Obj}, s.heap.get? b = some o → o.data ≠ .fields #[] → b ≠ p.2 := fun {b o} e d z => by
    rw [z, tp] at e
    cases e
    exact d rfl
  obtain ⟨og, eg, epg, hg, dg, _⟩ := S.glob
  obtain ⟨bm, ob, b1, b2, b3, b4, b5, b6⟩ := S.bmod
  refine ⟨S.code _ S.lay p hp, ⟨bm, ob, b1, b2, fun z => ?_, apart b3 (by rw [b6]; intro z; cases z), hidT_get b3 (S.none_of b3 (.inl (by rw [b4]; intro z; cases z)) (.inl (by rw [b4]; intro z; exact absurd z (by decide)))), b4, b5, b6⟩, apart hg (by rw [dg]; intro z; cases z)⟩
  rw [z, hg] at b3
  cases b3
  rw [dg] at b6
  cases b6
theorem Start.ok (S : Start K mg cs a vs ns s) : HOk P w S.hp s.heap := fun b u z => by
  rcases H0_inv z with ⟨m, rfl⟩ | ⟨rfl, _, rfl⟩
  · exact (S.tab m).1
  · exact ⟨S.list, by rw [List.length_map]; exact S.size, vs, _, vals_ints S.nums, S.list⟩
theorem Start.sq (S : Start K mg cs a vs ns s) : SqL K S.hp a (ns.map V.int) := by
  cases q : K.lookup a with
  | none => exact .inl (.inr ⟨_, by show H0 _ _ _ _ _ _ = _; unfold H0; rw [if_neg S.apart, if_pos ⟨rfl, q⟩]⟩)
  | some o =>
    have e := S.kin a o q
    rw [S.list] at e
    cases e
    have n := S.nums.length
    have z := S.size
    exact .inr ⟨_, vs.toArray, _, q, rfl, rfl, rfl, by rw [List.size_toArray]; omega, by simpa using vals_ints S.nums⟩
/-- the law's call -/
theorem law_end (S : Start K mg cs a vs ns s) {lev : Nat} {fa : Addr} {fd : FuncData} {x : Str} {sp : Sp} (room : Room lev callerA) (F : ∀ base : Heap, K.In base → base.Ns mainGlobals mg → (∀ p ∈ cs, GxR.TabB base mg p.1 p.2) → FnG P w K mg base lev fa fd [x] sp)
    (bind : ∀ (s : Shared) (u : Value), BindsTo s fd ⟨[u], []⟩ [(x, u)]) (hsp : sp [.ref a] S.hp (fun v _ => v = .bl true) fun _ _ _ => False) :
    codeAny (model P w) callerA (.call (.ref fa) ⟨[.ref a], []⟩) (fun r s' => r = .ok (.ret (.bool true)) ∧ OldK s.heap s'.heap ∧ s'.os = s.os ∧ AllBare s'.gens) s := by
  obtain ⟨mb, bl1, bl2⟩ := S.blt
  obtain ⟨mc, l1, l2⟩ := S.lim
  have env : Env0 P w K mg (hidT s.heap S.hp) callerA [] s S.hp := ⟨rfl, ⟨S.lay, S.kept S.glob, ⟨mb, S.kept bl1, bl2⟩, ⟨mc, S.kept l1, l2⟩⟩, fun b o e => of_hidT e, by rw [hidT_size]; exact Nat.le_refl _, trivial, fun b hb => absurd (show b ∈ ([] : List Addr) from hb) List.not_mem_nil, S.ok, .of_eq S.gens⟩
  refine codeAny_mono ((F _ S.lay (S.kept S.glob) S.tabB).runs (us := [.ref a]) (by rfl) room env (bind s (.ref a)) (.cons (show L2.RelV (.ref a) (.ref a) from rfl) .nil) hsp) fun r s' h => ?_
  match r, h with
  | .error e, h => exact (leaves_none h).elim
  | .ok (.ret u), ⟨v, H', os, bare, un, ok', rv, q⟩ =>
    have q : v = .bl true := q
    subst q
    cases rv
    have tabs : ∀ {b : Addr}, b ∈ cs.map (·.2) → ∃ more : Array Value, s'.heap.get? b = some { cls := .none, data := .fields more } := fun {b} hb => by
      obtain ⟨more, z⟩ := un.tbls b #[] (by show H0 _ _ _ _ _ _ = _; unfold H0; rw [if_pos hb])
      exact ⟨_, ok' b _ z⟩
    have rest : ∀ {b : Addr} {o : Obj}, b ∉ cs.map (·.2) → s.heap.get? b = some o → s'.heap.get? b = some o := fun {b o} hb e => by
      cases q : S.hp b with
      | none => exact un.keep b o e q (by intro z; cases z) (by intro z; cases z)
      | some u =>
        rcases H0_inv q with ⟨m, _⟩ | ⟨rfl, _, rfl⟩
        · exact absurd m hb
        · have z := (ok' b _ (un.frzs b _ _ q)).1
          rw [S.list] at e
          cases e
          exact z
    refine ⟨rfl, ⟨fun b o e => ?_, fun b o e => ?_⟩, os, bare⟩
    · by_cases hb : b ∈ cs.map (·.2)
      · obtain ⟨p, hp, rfl⟩ := List.mem_map.mp hb
        obtain ⟨more, z⟩ := tabs hb
        rw [S.empty p hp] at e
        cases e
        exact .inr (.inl ⟨((S.code _ S.kin p hp).tab (S.empty p hp)).isCodeTable, rfl, #[], more, rfl, by rw [Array.empty_append]; exact z⟩)
      · exact .inl (rest hb e)
    · by_cases hb : b ∈ cs.map (·.2)
      · obtain ⟨more, z⟩ := tabs hb
        exact ⟨_, z⟩
      · exact ⟨o, rest hb e⟩
end
/-- what is known of a law's promise at the head's heap -/
def LawG (l : PySem.W.OpenLaw) (w : World) (K : PySem.W.Frag) (lev n : Nat) (x : Str) (mg : Str → Option Value) (fa : Addr) (h : Heap) : Prop :=
  ∃ (fd : FuncData) (cs : List (Addr × Addr)) (sp : Sp), (∀ p ∈ cs, h.get? p.2 = some { cls := .none, data := .fields #[] }) ∧ (∀ p ∈ cs, K.lookup p.2 = none) ∧ (∀ h : Heap, K.In h → ∀ p ∈ cs, PySem.W.CodeHd h p.1 p.2) ∧ (∀ (s : Shared) (u : Value), BindsTo s fd ⟨[u], []⟩ [(x, u)]) ∧
    (∀ (H : Hp) (a : Addr) (ns : List Int), ns.length ≤ n → (∀ p ∈ cs, H p.2 = some (.tbl #[])) → SqL K H a (ns.map V.int) → sp [.ref a] H (fun v _ => v = .bl true) fun _ _ _ => False) ∧
    ∀ base : Heap, K.In base → base.Ns mainGlobals mg → (∀ p ∈ cs, GxR.TabB base mg p.1 p.2) → FnG l.prog w K mg base lev fa fd [x] sp
theorem walk_of {l : PySem.W.OpenLaw} {n lev : Nat} {q : Program} {loose : List Str} {XP : (Str → Option Value) → Heap → Prop} {YP : World → Heap → Prop} {d : DefRec} {x : Str}
    (hn : l.most = some n) (hn2 : n ≤ sizeLine) (hdf : d.params.defaults = []) (room : Room lev callerA)
    (F : ∀ (w : World) (mg : Str → Option Value) (fa : Addr) (h : Heap), YP w h → h.Ns mainGlobals mg → mg d.name = some (.ref fa) → ∃ K : PySem.W.Frag, K.In h ∧ LawG l w K lev n x mg fa h) : PySem.W.WalkO q loose XP YP l.row.toRowW d [] (fun f vs => PySem.call f vs) :=
  Att.attach_callB hn hdf fun w s₀ s₁ mg mb fa o pm cd doc a vs ns G Y _ _ _ hmg obj nums len _ gens => by
    obtain ⟨K, kin, fd, cs, sp, h1, h2, h3, h4, h5, h6⟩ := F w mg fa _ Y G.T.g hmg
    have S : Start K mg cs a vs ns s₁ := ⟨kin, G.T.g, ⟨mb, G.T.b, G.T.builtins⟩, G.T.nolimit, gens, h1, h2, h3, G.T.bmain, obj, nums, Nat.le_trans len hn2⟩
    refine law_end S room h6 h4 (h5 _ a ns len (fun p hp => ?_) S.sq)
    show H0 _ _ _ _ _ _ = _
    unfold H0
    rw [if_pos (List.mem_map.mpr ⟨p, hp, rfl⟩)]
/-- the law's end: cs, the code objects with tables -/
theorem law_at {l : PySem.W.OpenLaw} {n k f : Nat} {x : Str} {fa : Addr} {h : Heap} {fd : FuncData} {cs : List (Addr × Addr)} (enm : Nat → Option Str)
    (h1 : ∀ p ∈ cs, h.get? p.2 = some { cls := .none, data := .fields #[] }) (h2 : ∀ p ∈ cs, K.lookup p.2 = none) (h3 : ∀ h : Heap, K.In h → ∀ p ∈ cs, PySem.W.CodeHd h p.1 p.2) (hb : ∀ (s : Shared) (u : Value), BindsTo s fd ⟨[u], []⟩ [(x, u)])
    (math : ∀ ns : List Int, ns.length ≤ n → ∃ ps, run Pg Wn (k + 1) f [.scr (ns.map D.int)] = .ret (.bl true) ps)
    (hF : ∀ base : Heap, K.In base → base.Ns mainGlobals mg → (∀ p ∈ cs, GxR.TabB base mg p.1 p.2) → FnG l.prog w K mg base (2 * k + 4) fa fd [x] (spRun K mg enm (fun P => ∃ p ∈ cs, P = p.2) (run Pg Wn (k + 1)) f)) :
    LawG l w K (2 * k + 4) n x mg fa h := by
  refine ⟨fd, cs, _, h1, h2, h3, hb, fun H a ns hl hT hS => ?_, fun base b1 b2 b3 => hF base b1 b2 fun p hp => ?_⟩
  · obtain ⟨ps, hr⟩ := math ns hl
    refine law_sp hS (fun P hP => ?_) hr
    obtain ⟨p, hp, rfl⟩ := hP
    exact ⟨#[], hT p hp, by simp [TriplesOk]⟩
  · have z := b3 p hp
    exact ⟨z.code, z.bm, z.gP⟩
end
end VM

/-! Part T: within an except suite. -/
namespace VM
open PySem PySem.Spec L2
section
variable {Γ : Ctx} {pos p : Pos}
/-- error.value -/
theorem gx_errVal {n : Str} {cls : Value} {d : Option Addr} {i : Nat} {a : Addr} (hcu : Γ.cu = some (cls, d)) (hhv : Γ.hv = some (i, a)) (hN : Γ.N[i]? = some n := by rfl) (hv : Vis Γ.sc n := by first | exact Or.inl rfl | exact Or.inr (Or.inl rfl) | exact Or.inr (Or.inr rfl))
    (hb : ∀ env : PySem.Env, attributeBase (.Name n p) "value" env (eval (.Name n p) env) = eval (.Name n p) env := by intro _; rfl) (hd : (n == ("__debug__" : Str)) = false := by decide) (hcd : (n == ("__classdict__" : Str)) = false := by decide) :
    GX Γ (.Attribute (.Name n p) "value" pos) .errVal := fun X W c => by
  obtain ⟨X0, a2, oe, pn, rfl, hz, hf, i2, h2⟩ := c.hot cls d hcu
  rw [hhv] at h2
  cases h2
  have known : ∀ {cur : Cur} {E : En} {F : Hp} {L : Fp} {σ : L2.St} {H : Hp}, Rel Γ (Cx.suite X0 a ((a, oe) :: pn)) cur E F L σ H → ∃ C dd v q, cls = .ref C ∧ XfC X0.K C ∧ PySem.W.findIn X0.K (.ref C) "value" = some none ∧ d = some dd ∧ F dd = some (.xd [(("value" : Str), v)]) ∧ cur = some q ∧ Own X0.K F q.2 v [] := fun {cur E F L σ H} rl => by
    have z := rl.cur
    rw [hcu] at z
    cases cur with
    | none => exact z.elim
    | some q =>
      obtain ⟨x, C, dd, v, h1, h2, h3, h4, h5, h6⟩ := z
      obtain ⟨C2, e⟩ := c.errs _ _ h1
      have g := e.g
      rw [h2] at g
      cases g
      exact ⟨C, dd, v, q, h3, e.xf, e.no, h4, h5, rfl, h6⟩
  by_cases hk : ∃ C, cls = .ref C ∧ XfC X0.K C ∧ PySem.W.findIn X0.K (.ref C) "value" = some none
  · obtain ⟨C, rfl, xf, no⟩ := hk
    refine PE.imp (pe_xf (X := X0) (C := C) (n := "value") xf no hz hf (pe_var (i := i) (by rw [c.n]; exact hN) (by rw [c.sc]; exact hv) hd hcd) (hb _)) fun σ H Q z => ?_
    obtain ⟨F, L, E, cur, dv, rl, e, q⟩ := z
    obtain ⟨C3, dd, v, qq, k1, _, _, k2, k3, rfl, k4⟩ := known rl
    have e : some qq.2 = some dv := e
    cases e
    exact ⟨.ref a, rl.hv i a hhv, rfl, rfl, dd, _, v, k2, rl.ok.fH _ _ k3, rfl, q v H F [] (Step.refl rl.ok) (fun p hp => by cases hp) k4⟩
  · refine ⟨fun pins s σ H Q I z => ?_⟩
    obtain ⟨F, L, E, cur, dv, rl, e, q⟩ := z
    obtain ⟨C3, dd, v, qq, k1, k5, k6, _⟩ := known rl
    exact absurd ⟨C3, k1, k5, k6⟩ hk
end
end VM

/-! Part U: repr, the empty dict, isinstance of a caught error. -/
namespace VM
open PySem PySem.Spec L2
section
variable {X : Cx} {pins : List (Addr × Obj)} {σ : L2.St} {H : Hp} {s : Shared}
/-- the empty dict's object -/
theorem dct_obj (I : Inv X pins σ H s) {a : Addr} (h : H a = some (.dK [])) : (a == sysModules) = false ∧ ∃ (o : Obj) (es : Array DictEntry) (n : Nat), s.heap.get? a = some o ∧ o.cls = .type "dict" ∧ o.data = .dict es n ∧ es.toList = [] := by
  obtain ⟨_, ya, va, ra, oa, ea, na, a1, a2, a3, a4, a5, a6⟩ := (show ObjOk X.prog X.w H s.heap a (.dK []) from I.hok a _ h)
  cases ra
  refine ⟨ya, oa, ea, na, a1, a2.1, a3, ?_⟩
  cases q : ea.toList with
  | nil => rfl
  | cons z w => rw [q] at a5; cases a5
mutual
/-- data with its text -/
theorem rk (I : Inv X pins σ H s) : ∀ (d : PyData) (v : V) (u : Value), Rd X.K H v d → RelV v u → d.showable = true → d.shown.length ≤ sizeLine → ∃ as bs, Reads s.heap u d as ∧ ReadAtMost s.heap d.depth bs ∧ ReprK X.prog X.w bs s.heap d.depth u d.shown
  | .none, _, _, h, r, hs, hz => by
    cases h; cases r
    obtain ⟨bs, b1, b2⟩ := ReprK.of_reads (prog := X.prog) (w := X.w) (Reads.none (h := s.heap)) hs (PyData.noDict_hsm rfl) hz
    exact ⟨_, bs, Reads.none, b1, b2⟩
  | .bool b, _, _, h, r, hs, hz => by
    cases h; cases r
    obtain ⟨bs, b1, b2⟩ := ReprK.of_reads (prog := X.prog) (w := X.w) (Reads.bool (h := s.heap) b) hs (PyData.noDict_hsm rfl) hz
    exact ⟨_, bs, Reads.bool b, b1, b2⟩
  | .int i, _, _, h, r, hs, hz => by
    cases h
    obtain ⟨t, rfl⟩ := r
    obtain ⟨bs, b1, b2⟩ := ReprK.of_reads (prog := X.prog) (w := X.w) (Reads.int (h := s.heap) i t) hs (PyData.noDict_hsm rfl) hz
    exact ⟨_, bs, Reads.int i t, b1, b2⟩
  | .str x, _, _, h, r, hs, hz => by
    cases h
    obtain ⟨t, rfl⟩ := r
    obtain ⟨bs, b1, b2⟩ := ReprK.of_reads (prog := X.prog) (w := X.w) (Reads.str (h := s.heap) x t) hs (PyData.noDict_hsm rfl) hz
    exact ⟨_, bs, Reads.str x t, b1, b2⟩
  | .list xs, _, _, h, r, hs, hz => by
    cases h with
    | lst h1 h2 =>
      rename_i a us
      cases r
      have z : (listText (PyData.shownAll xs)).length ≤ sizeLine := by simpa only [PyData.shown] using hz
      obtain ⟨its, q1, ⟨o, n, ho, hc, _, hd⟩, _⟩ := I.list h1
      obtain ⟨as, bs, c1, c2, c3⟩ := rkL I xs us its h2 q1 (by simpa [PyData.showable] using hs) fun t ht => Nat.le_trans (listText_mem_le ht) z
      have rd : Reads s.heap (.ref a) (.list xs) _ := .list ho hc hd c1
      have out : a ∉ bs := not_mem_of_deeper rd (by simp only [PyData.depth]; omega) c2
      refine ⟨_, a :: bs, rd, ReadAtMost.cons rd (by simp only [PyData.depth]; omega) c2, ?_⟩
      simp only [PyData.depth, PyData.shown]
      cases its with
      | nil =>
        cases c1
        simp only [PyData.shownAll, listText_nil]
        exact ReprK.listEmpty ho hc hd
      | cons y l => exact ReprK.list ho hc hd out (by simpa using c3.length_eq) fun i w e => c3.item i w (by simpa using e)
  | .tuple xs, _, _, h, r, hs, hz => by
    cases h with
    | tup h1 h2 =>
      rename_i a us
      cases r
      have z : (tupleText (PyData.shownAll xs)).length ≤ sizeLine := by simpa only [PyData.shown] using hz
      obtain ⟨its, q1, ⟨o, ho, hc, n, hd⟩, _⟩ := I.tuple h1
      obtain ⟨as, bs, c1, c2, c3⟩ := rkL I xs us its h2 q1 (by simpa [PyData.showable] using hs) fun t ht => Nat.le_trans (tupleText_mem_le ht) z
      have rd : Reads s.heap (.ref a) (.tuple xs) _ := .tuple ho hc hd c1
      refine ⟨_, a :: bs, rd, ReadAtMost.cons rd (by simp only [PyData.depth]; omega) c2, ?_⟩
      simp only [PyData.depth, PyData.shown]
      exact ReprK.tuple ho hc hd (not_mem_of_deeper rd (by simp only [PyData.depth]; omega) c2) c3
  | .dict xs, _, _, h, r, hs, hz => by
    cases h with
    | dct h =>
      rename_i a
      cases r
      obtain ⟨n, o, es, m, h1, h2, h3, h4⟩ := dct_obj I h
      have rd : Reads s.heap (.ref a) (.dict []) _ := .dict h1 h2 h3 (by rw [h4]; exact .nil) (by rw [h4]; exact .nil)
      refine ⟨_, [a], rd, ReadAtMost.cons (n := 0) rd (Nat.zero_le _) (fun b hb => by cases hb), ?_⟩
      exact ReprK.dict (as := []) (d := 0) h1 h2 h3 n (by simp) (by rw [h4]; exact .nil)
theorem rkL (I : Inv X pins σ H s) : ∀ (ds : List PyData) (vs : List V) (us : List Value), RdL X.K H vs ds → Vals vs us → PyData.showableAll ds = true → (∀ t ∈ PyData.shownAll ds, t.length ≤ sizeLine) →
    ∃ as bs, ReadsAll s.heap us ds as ∧ ReadAtMost s.heap (PyData.depthAll ds) bs ∧ ReprAllK X.prog X.w bs s.heap (PyData.depthAll ds) us (PyData.shownAll ds)
  | [], _, _, h, r, _, _ => by
    cases h; cases r
    exact ⟨_, [], .nil, (fun b hb => by cases hb), .nil⟩
  | d :: ds, _, _, h, r, hs, hz => by
    cases h with
    | cons h1 h2 =>
      cases r with
      | cons r1 r2 =>
        have hs' : d.showable = true ∧ PyData.showableAll ds = true := by simpa [PyData.showableAll] using hs
        obtain ⟨as, bs, c1, c2, c3⟩ := rk I d _ _ h1 r1 hs'.1 (hz _ (by simp only [PyData.shownAll]; exact List.mem_cons_self))
        obtain ⟨as', bs', d1, d2, d3⟩ := rkL I ds _ _ h2 r2 hs'.2 fun t ht => hz t (by simp only [PyData.shownAll]; exact List.mem_cons_of_mem _ ht)
        refine ⟨_, bs ++ bs', .cons c1 d1, ?_, ?_⟩
        · exact (c2.mono (by simp only [PyData.depthAll]; omega)).append (d2.mono (by simp only [PyData.depthAll]; omega))
        · simp only [PyData.shownAll]
          exact .cons ((c3.more fun b hb => List.mem_append_left _ hb).level_le (by simp only [PyData.depthAll]; omega)) (d3.more_le (fun b hb => List.mem_append_right _ hb) (by simp only [PyData.depthAll]; omega))
end
/-- repr of data -/
theorem call_repr (gd : X.A.guards = some []) (un : X.A.units + 66 < cLine) : CallR X (.builtin "repr") (fun xs H Q => ∃ x d y, xs = [x] ∧ Rd X.K H x d ∧ prepr d = some y ∧ Q (.str y) H) := by
  intro pins s σ H xs us Q I r h
  obtain ⟨x, d, y, rfl, hd, hy, q⟩ := h
  obtain ⟨u, rfl, ru⟩ := vals1 r
  unfold prepr at hy
  split at hy
  · rename_i hp
    obtain ⟨hs, hdp, hz⟩ := hp
    cases hy
    obtain ⟨as, bs, c1, c2, c3⟩ := rk I d x u hd ru hs hz
    have end_ : ∀ (h' : Heap) (t tk : Nat), (∀ b o, s.heap.get? b = some o → h'.get? b = some o) → EP X pins σ Q (.str d.shown t) { s with heap := h', toks := tk } := fun h' t tk k => ⟨.str d.shown, H, I.kept k, ⟨t, rfl⟩, q⟩
    have ends : EP X pins σ Q (.str d.shown s.toks) { s with toks := s.toks + 1 } := end_ s.heap _ _ fun _ _ e => e
    have whole : d.hasDict = false → ∀ a, u = .ref a → wpAny (model X.prog X.w) X.A (call (.builtin "repr") [u]) (EP X pins σ Q) X.xe s := fun hh a e => by
      subst e
      exact repr_of_reads' c1 hs (PyData.noDict_hsm hh) gd (by omega) (fun _ _ e => e) (fun h' t tk k => end_ h' t tk k) hz
    cases hd with
    | non => cases ru; exact PySem.P.repr_of_none ends
    | bl b => cases ru; exact PySem.P.repr_of_bool ends
    | int i =>
      obtain ⟨t, rfl⟩ := ru
      exact PySem.P.repr_of_int (by simpa [PyData.showable] using hs) ends
    | str y =>
      obtain ⟨t, rfl⟩ := ru
      exact PySem.P.repr_of_str ends hz
    | lst h1 h2 =>
      rename_i a us ps
      cases hh : (PyData.list ps).hasDict with
      | false => exact whole hh a ru
      | true =>
        cases ru
        have z : (listText (PyData.shownAll ps)).length ≤ sizeLine := by simpa only [PyData.shown] using hz
        obtain ⟨its, q1, ⟨o, n, ho, hc, _, hd⟩, _⟩ := I.list h1
        obtain ⟨as, bs, c1, c2, c3⟩ := rkL I ps us its h2 q1 (by simpa [PyData.showable] using hs) fun t ht => Nat.le_trans (listText_mem_le ht) z
        have rd : Reads s.heap (.ref a) (.list ps) _ := .list ho hc hd c1
        have hdp' : PyData.depthAll ps + 1 ≤ 60 := by simpa only [PyData.depth] using hdp
        cases its with
        | nil =>
          cases c1
          cases hh
        | cons y l =>
          refine call_repr_slot (by omega) ⟨o, ho, hc⟩ F.slot_list_repr.toG (call_list_reprK ho hc hd (not_mem_of_deeper rd (by simp only [PyData.depth]; omega) c2) (by simpa using c3.length_eq) (fun i w e => c3.item i w (by simpa using e)) (A := X.A.in1) (g := []) gd (fun b _ => Clear.nil b) (by show X.A.units + 1 + _ < cLine; omega) (fun _ _ e => e) (fun h' t tk k => ⟨_, _, rfl, ?_⟩) z)
          have e := end_ h' t tk k
          simpa only [PyData.shown] using e
    | tup h1 h2 =>
      rename_i a us ps
      cases ru
      have z : (tupleText (PyData.shownAll ps)).length ≤ sizeLine := by simpa only [PyData.shown] using hz
      obtain ⟨its, q1, ⟨o, ho, hc, n, hd⟩, _⟩ := I.tuple h1
      obtain ⟨as, bs, c1, c2, c3⟩ := rkL I ps us its h2 q1 (by simpa [PyData.showable] using hs) fun t ht => Nat.le_trans (tupleText_mem_le ht) z
      have rd : Reads s.heap (.ref a) (.tuple ps) _ := .tuple ho hc hd c1
      have hdp' : PyData.depthAll ps + 1 ≤ 60 := by simpa only [PyData.depth] using hdp
      refine call_repr_slot (by omega) ⟨o, ho, hc⟩ F.slot_tuple_repr (call_tuple_reprK ho hc hd (not_mem_of_deeper rd (by simp only [PyData.depth]; omega) c2) c3 (A := X.A.in1) (g := []) gd (fun b _ => Clear.nil b) (by show X.A.units + 1 + _ < cLine; omega) (fun _ _ e => e) (fun h' t tk k => ⟨_, _, rfl, ?_⟩) z)
      have e := end_ h' t tk k
      simpa only [PyData.shown] using e
    | dct h =>
      rename_i a
      cases ru
      obtain ⟨n, o, es, m, h1, h2, h3, h4⟩ := dct_obj I h
      refine call_repr_slot (by omega) ⟨o, h1, h2⟩ F.slot_dict_repr (call_dict_reprK (as := []) (d := 0) (ps := []) h1 h2 h3 n (by simp) (by rw [h4]; exact .nil) (A := X.A.in1) (g := []) gd (fun b _ => Clear.nil b) (by show X.A.units + 1 + _ < cLine; omega) (fun _ _ e => e) (fun h' t tk k => ⟨_, _, rfl, ?_⟩) hz)
      exact end_ h' t tk k
  · cases hy
end
theorem os_repr {K : PySem.W.Frag} : OpSL K (bop .repr) (fun xs H Q => ∃ x d y, xs = [x] ∧ Rd K H x d ∧ prepr d = some y ∧ Q (.str y) H) := fun F H ds vs L d Q fH i o e q => by
  match ds, e with
  | [a], e =>
    have e : (a.py.bind prepr).map D.str = some d := by
      cases a <;> exact e
    obtain ⟨y, e1, rfl⟩ := Option.map_eq_some_iff.mp e
    obtain ⟨p, e2, e3⟩ := Option.bind_eq_some_iff.mp e1
    obtain ⟨v, rfl, h⟩ := ownL_one o
    exact ⟨v, p, y, rfl, h.rd fH i e2, e3, q _ _ nosub str_own⟩
  | [], e => cases e
  | a :: b :: c, e => cases a <;> cases e
section
variable {Γ : Ctx} {pos p : Pos}
theorem gx_repr {e : Expr} {s : Sx} (ha : GX Γ e s) (hg : Glb Γ "repr" := by rfl) (hm : Fre Γ "repr" := by rfl) (ns : NS e := by intro _ _; rfl) :
    GX Γ (.Call (.Name "repr" p) [e] [] pos) (.op .repr (.cons s .nil)) := fun X W c => PE.imp (pe_callB (call_repr c.gd c.un) (gl_of c hg) (bltn_none c hm) (by decide +kernel) (gxa_cons ha gxa_nil ns X W c) (he := ns _ _)) (call_of c os_repr)
theorem ge_repr {e : Expr} {m : M} (ha : GE Γ e m) (hg : Glb Γ "repr" := by rfl) (hm : Fre Γ "repr" := by rfl) (ns : NS e := by intro _ _; rfl) :
    GE Γ (.Call (.Name "repr" p) [e] [] pos) (.op .repr (.cons m .nil)) := fun X W c => PE.imp (pe_callB (call_repr c.gd c.un) (gl_of c hg) (bltn_none c hm) (by decide +kernel) (ges_cons ha ges_nil ns X W c) (he := ns _ _)) (callM os_repr)
theorem ge_emp : GE Γ (.Dict [] [] pos) (.new .emp .nil) := fun X W c => PE.imp pe_dnewK fun σ H Q z => by
  obtain ⟨F, L, E, cur, rl, q⟩ := z
  have q : Bs Γ X W σ F L H (ro X) (.ok (.dct false [] []) E) Q := q
  intro a ha
  have st := Step.newFrozen rl.ok (.dK []) ha
  exact q (.ref a) _ _ L [] st (rl.own.mono st.ff) ⟨rfl, rfl, rfl, rfl, a, rfl, upd_same⟩
end
end VM
namespace VM
open PySem PySem.Spec L2
/-! ### isinstance of the caught error -/
/-- isinstance(e, c) of the error that the suite holds, with its dict -/
def rHot (K : PySem.W.Frag) (C a dd : Addr) : List V → Hp → VK → Prop := fun xs H Q => ∃ (c : V) (cv : Value) (b : Bool) (fs : List (Str × V)), xs = [.ref a, c] ∧ (∀ u, RelV c u → u = cv) ∧ H dd = some (.xd fs) ∧ PySem.W.kitOne K (.ref C) cv = some b ∧ Q (.bl b) H
theorem call_hot {X : Cx} {a C dd : Addr} {oe : Obj} {pn : List (Addr × Obj)} (T : XfC X.K C) (S : ExIs X.K C) (hz : Zc (.ref C) (some dd) oe) (hf : ∃ vs, oe.data = .fields vs) : CallR (X.suite a ((a, oe) :: pn)) (.builtin "isinstance") (rHot X.K C a dd) := by
  intro pins s σ H xs us Q I r h
  obtain ⟨c, cv, b, fs, rfl, hc, hx, e, q⟩ := h
  obtain ⟨u1, u2, rfl, r1, r2⟩ : ∃ u1 u2, us = [u1, u2] ∧ RelV (.ref a) u1 ∧ RelV c u2 := by
    cases r with
    | cons r1 r =>
      cases r with
      | cons r2 r =>
        cases r
        exact ⟨_, _, rfl, r1, r2⟩
  cases r1
  have e2 := hc _ r2
  subst e2
  obtain ⟨mA, ns, _⟩ := (show ObjOk X.prog X.w H s.heap dd (.xd fs) from I.hok dd _ hx)
  obtain ⟨od, ho, _⟩ := lookIn_ns ns
  obtain ⟨vs, hv⟩ := hf
  have J : PySem.W.InstAt s.heap a oe C (some od) := ⟨(I.pin (a, oe) (List.mem_append_left _ List.mem_cons_self)).1, hz.1, by unfold PySem.W.notCls; rw [hv] <;> rfl, by rw [hz.2]; exact ho⟩
  exact PySem.W.kia_one (PySem.W.kitx_exc S.cls T.ga T.gg T.exC S.at_ S.get S.tak S.mro) I.kIn J e (fun z => nomatch z) fun tk => ⟨.bl b, H, I.kept (t' := tk) fun _ _ z => z, rfl, q⟩
section
variable {Γ : Ctx} {pos p p1 : Pos}
/-- what the suite knows of the error -/
theorem hot_known {X0 : Cx} {W : WX} {a : Addr} {oe : Obj} {pn : List (Addr × Obj)} {cls : Value} {d : Option Addr} (c : CtxOk Γ (Cx.suite X0 a ((a, oe) :: pn)) W) (hcu : Γ.cu = some (cls, d)) {cur : Cur} {E : En} {F : Hp} {L : Fp} {σ : L2.St} {H : Hp} (rl : Rel Γ (Cx.suite X0 a ((a, oe) :: pn)) cur E F L σ H) :
    ∃ k x C dd v dv, cur = some (k, dv) ∧ Γ.enm k = some x ∧ ErrC (Cx.suite X0 a ((a, oe) :: pn)) x C ∧ cls = .ref C ∧ d = some dd ∧ H dd = some (.xd [(("value" : Str), v)]) := by
  have z := rl.cur
  rw [hcu] at z
  cases cur with
  | none => exact z.elim
  | some q =>
    obtain ⟨x, C, dd, v, h1, h2, h3, h4, h5, h6⟩ := z
    obtain ⟨C2, e⟩ := c.errs _ _ h1
    have g := e.g
    rw [h2] at g
    cases g
    exact ⟨q.1, x, C, dd, v, q.2, rfl, h1, e, h3, h4, rl.ok.fH _ _ h5⟩
theorem gx_errTest {y n : Str} {p2 : Pos} {m : Sx} {cls : Value} {d : Option Addr} {i : Nat} {a : Addr} (hcu : Γ.cu = some (cls, d)) (hhv : Γ.hv = some (i, a)) (hN : Γ.N[i]? = some n) (hv : Vis Γ.sc n)
    (h2 : ∀ X W, CtxOk Γ X W → ∃ t cv, PE X (.Name y p2) (tC t) ∧ (∀ u, RelV t u → u = cv) ∧ ∀ (k : Nat) (x : Str) (C : Addr) (dv : D) (E : En), Γ.enm k = some x → ErrC X x C → ∃ b, PySem.W.kitOne X.K (.ref C) cv = some b ∧ sv (some (k, dv)) E m = some (.bl b))
    (hg : Glb Γ "isinstance") (hm : Fre Γ "isinstance") (hd : (n == ("__debug__" : Str)) = false) (hcd : (n == ("__classdict__" : Str)) = false) :
    GX Γ (.Call (.Name "isinstance" p) [.Name n p1, .Name y p2] [] pos) m := fun X W c => by
  obtain ⟨X0, a2, oe, pn, rfl, hz, hf, i2, h3⟩ := c.hot cls d hcu
  rw [hhv] at h3
  cases h3
  by_cases hk : ∃ k x C dd, Γ.enm k = some x ∧ ErrC (Cx.suite X0 a ((a, oe) :: pn)) x C ∧ cls = .ref C ∧ d = some dd
  · obtain ⟨k, x, C, dd, kx, ec, rfl, rfl⟩ := hk
    obtain ⟨t, cv, q1, q2, q3⟩ := h2 _ _ c
    refine PE.imp (pe_callB (call_hot (X := X0) ec.xf ec.is hz hf) (gl_of c hg) (bltn_none c hm) (by decide +kernel) (pa_cons (pe_var (i := i) (by rw [c.n]; exact hN) (by rw [c.sc]; exact hv) hd hcd) (pa_cons q1 pa_nil (by rfl)) (by rfl)) (he := by rfl)) fun σ H Q z => ?_
    obtain ⟨F, L, E, cur, dv, rl, e, q⟩ := z
    obtain ⟨k', x', C', dd', v, dv', rfl, kx', ec', z1, z2, z3⟩ := hot_known c hcu rl
    cases z1
    cases z2
    obtain ⟨b, b2, b3⟩ := q3 k' x' C dv' E kx' ec'
    rw [b3] at e
    cases e
    exact ⟨.ref a, rl.hv i a hhv, t, cv, b, _, rfl, q2, z3, b2, q _ _ _ [] (Step.refl rl.ok) (fun p hp => by cases hp) bl_own⟩
  · refine ⟨fun pins s σ H Q I z => ?_⟩
    obtain ⟨F, L, E, cur, dv, rl, e, q⟩ := z
    obtain ⟨k', x', C', dd', v, dv', rfl, kx', ec', z1, z2, z3⟩ := hot_known c hcu rl
    exact absurd ⟨k', x', C', dd', kx', ec', z1, z2⟩ hk
/-- isinstance(error, X), X an error of the text -/
theorem gx_errIs {y n : Str} {t : Nat} {p2 : Pos} {cls : Value} {d : Option Addr} {i : Nat} {a : Addr} (hcu : Γ.cu = some (cls, d)) (hhv : Γ.hv = some (i, a)) (hy : Γ.enm t = some y := by rfl) (hgy : Glb Γ y := by rfl) (hN : Γ.N[i]? = some n := by rfl) (hv : Vis Γ.sc n := by first | exact Or.inl rfl | exact Or.inr (Or.inl rfl) | exact Or.inr (Or.inr rfl))
    (hg : Glb Γ "isinstance" := by rfl) (hm : Fre Γ "isinstance" := by rfl) (hd : (n == ("__debug__" : Str)) = false := by decide) (hcd : (n == ("__classdict__" : Str)) = false := by decide) (hdy : (y == ("__debug__" : Str)) = false := by decide) :
    GX Γ (.Call (.Name "isinstance" p) [.Name n p1, .Name y p2] [] pos) (.errIs [t]) := gx_errTest hcu hhv hN hv (fun X W c => by
  obtain ⟨C', ec'⟩ := c.errs t y hy
  refine ⟨.ref C', .ref C', pe_glob (gl_of c hgy) ec'.g (show RelV (.ref C') (.ref C') from rfl) hdy, fun u h => h, fun k x C dv E kx ec => ?_⟩
  obtain ⟨Ca, Cb, m1, m2, _, m3⟩ := c.exms k x t y kx hy
  rw [ec.g] at m1
  rw [ec'.g] at m2
  cases m1
  cases m2
  exact ⟨_, m3, by simp [sv]⟩) hg hm hd hcd
theorem gx_errVE {n : Str} {p2 : Pos} {cls : Value} {d : Option Addr} {i : Nat} {a : Addr} (hcu : Γ.cu = some (cls, d)) (hhv : Γ.hv = some (i, a)) (hgy : Glb Γ "ValueError" := by rfl) (hmy : Fre Γ "ValueError" := by rfl) (hN : Γ.N[i]? = some n := by rfl) (hv : Vis Γ.sc n := by first | exact Or.inl rfl | exact Or.inr (Or.inl rfl) | exact Or.inr (Or.inr rfl))
    (hg : Glb Γ "isinstance" := by rfl) (hm : Fre Γ "isinstance" := by rfl) (hd : (n == ("__debug__" : Str)) = false := by decide) (hcd : (n == ("__classdict__" : Str)) = false := by decide) :
    GX Γ (.Call (.Name "isinstance" p) [.Name n p1, .Name "ValueError" p2] [] pos) .errVE := gx_errTest hcu hhv hN hv (fun X W c =>
  ⟨.ty "ValueError", .type "ValueError", pe_bltn (v := .ty "ValueError") (gl_of c hgy) (bltn_none c hmy) (by decide +kernel) rfl (by decide) (by decide), fun u h => h, fun k x C dv E kx ec => ⟨true, ec.is.val, by simp [sv]⟩⟩) hg hm hd hcd
end
end VM

/-! Part V: instances of the text's own classes. -/
namespace VM
open PySem PySem.Spec L2
section
variable {Γ : Ctx} {pos p p1 p2 apos : Pos}
/-- an instance, as it is to be read -/
theorem ins_read {K : PySem.W.Frag} {F H : Hp} {o : Bool} {c : Str} {ns : List Str} {ds : List D} {v : V} {L : Fp} (h : Own K F (.ins o c ns ds) v L) (fH : Same F H) (i : InH L H) :
    ClsK K c ∧ ∃ a dx vs L', v = .ref a ∧ H a = some (.ins (He.ga K c) dx (ns.zip vs)) ∧ OwnL K F ds vs L' ∧ List.Sublist L' L := by
  cases o with
  | false =>
    obtain ⟨h0, _, a, dx, vs, rfl, h3, _, _, h6⟩ := h
    exact ⟨h0, a, dx, vs, [], rfl, fH _ _ h3, h6, List.nil_sublist _⟩
  | true =>
    obtain ⟨h0, a, dx, vs, L', rfl, rfl, _, h6⟩ := h
    exact ⟨h0, a, dx, vs, L', rfl, i (a, .ins (He.ga K c) dx (ns.zip vs)) List.mem_cons_self, h6, (List.sublist_cons_self _ _).trans (List.sublist_cons_self _ _)⟩
theorem fat1 {c f : Str} (h : Γ.fat c f = true) : ∀ k ∈ [c], Γ.fat k f = true := fun k hk => by rw [List.mem_singleton.mp hk]; exact h
theorem fat2 {c c' f : Str} (h : Γ.fat c f = true) (h' : Γ.fat c' f = true) : ∀ k ∈ [c, c'], Γ.fat k f = true := fun k hk => by
  simp only [List.mem_cons, List.not_mem_nil, or_false] at hk
  rcases hk with rfl | rfl
  · exact h
  · exact h'
theorem cla1 {c : Str} (h : Γ.cla c = true) : ∀ k ∈ [c], Γ.cla k = true := fun k hk => by rw [List.mem_singleton.mp hk]; exact h
theorem cla2 {c c' : Str} (h : Γ.cla c = true) (h' : Γ.cla c' = true) : ∀ k ∈ [c, c'], Γ.cla k = true := fun k hk => by
  simp only [List.mem_cons, List.not_mem_nil, or_false] at hk
  rcases hk with rfl | rfl
  · exact h
  · exact h'
/-- e.f -/
theorem gx_fld {e : Expr} {s : Sx} {cs : List Str} {f : Str} (he : GX Γ e s) (hf : ∀ c ∈ cs, Γ.fat c f = true) (hb : ∀ env : PySem.Env, attributeBase e f env (eval e env) = eval e env := by intro _; rfl) : GX Γ (.Attribute e f pos) (.fld cs s f) := fun X W c =>
  PE.imp (pe_fld (he X W c) (hb _)) fun σ H Q h => by
    obtain ⟨F, L, E, cur, d, rl, e, q⟩ := h
    have e : (match sv cur E s with
      | some (.ins _ c ns ds) => if c ∈ cs then look f ns ds else none
      | _ => none) = some d := e
    split at e
    · rename_i o k ns ds e1
      split at e
      · rename_i hk
        refine ⟨F, L, E, cur, _, rl, e1, fun v1 H1 F1 L1 s1 p1 o1 => ?_⟩
        obtain ⟨h0, a, dx, vs, L', rfl, h3, h6, h7⟩ := ins_read o1 s1.ok.fH (s1.ok.inH.of p1)
        obtain ⟨v, M, m1, m2, m3⟩ := h6.look e
        exact ⟨a, _, dx, _, v, rfl, h3, h0.cl, (c.fat _ _ (hf k hk)).2, by rw [look_zip]; exact m1, q v H1 F1 M s1 (fun p hp => p1 p (h7.mem (m2.mem hp))) m3⟩
      · cases e
    · cases e
/-- isinstance(e, C), C a class of the text -/
theorem gx_isC {e : Expr} {s : Sx} {y : Str} {cs : List Str} (ha : GX Γ e s) (hc : Γ.cla y = true) (hall : ∀ c ∈ cs, Γ.cla c = true) (hgy : Glb Γ y := by rfl) (hg : Glb Γ "isinstance" := by rfl) (hm : Fre Γ "isinstance" := by rfl) (ns : NS e := by intro _ _; rfl) (hdy : (y == ("__debug__" : Str)) = false := by decide) :
    GX Γ (.Call (.Name "isinstance" p) [e, .Name y p1] [] pos) (.op (.isC cs y) (.cons s .nil)) := fun X W c => by
  obtain ⟨y1, y2, y3, y4, y5, y6, _⟩ := c.cla y hc
  refine PE.imp (pe_callB call_isi (gl_of c hg) (bltn_none c hm) (by decide +kernel) (pa_cons (ha X W c) (pa_cons (pe_glob (gl_of c hgy) y1 (show RelV (.ref (He.ga X.K y)) (.ref (He.ga X.K y)) from rfl) hdy) pa_nil) (ns _ _)) (he := ns _ _)) fun σ H Q h => ?_
  obtain ⟨F, L, E, cur, d, rl, e, q⟩ := h
  have e : (svs cur E (.cons s .nil)).bind (bop (.isC cs y)) = some d := e
  obtain ⟨ds, e1, e2⟩ := Option.bind_eq_some_iff.mp e
  obtain ⟨d1, es, e3, e4, rfl⟩ := svs_cons_inv e1
  obtain rfl := svs_nil_inv e4
  have e2 : d1.isIns cs y = some d := by
    cases d1 <;> exact e2
  refine ⟨F, L, E, cur, d1, rl, e3, fun v1 H1 F1 L1 s1 p1 o1 => ?_⟩
  rcases own_ty s1.ok.fH (s1.ok.inH.of p1) o1 with ⟨nk, ty⟩ | ⟨o, c', ns, ds, rfl, h0, ty⟩ | ⟨n, e, rfl, h0, ty⟩
  rotate_right
  · cases e2
  · have e3 : d = .bl false := by
      cases d1 <;> first | exact (Option.some.inj e2).symm | exact absurd rfl nk
    subst e3
    exact ⟨v1, _, _, _, _, rfl, .own _, ty, y6 _ nk, q (.bl false) H1 F1 [] s1 (fun p hp => by cases hp) bl_own⟩
  · have e2 : (if c' ∈ cs then some (D.bl (c' == y)) else none) = some d := e2
    split at e2
    · rename_i hm'
      cases e2
      exact ⟨v1, _, _, _, _, rfl, .own _, ty, (c.cla y hc).2.2.2.2.2.2 c' (hall c' hm'), q (.bl (c' == y)) H1 F1 [] s1 (fun p hp => by cases hp) bl_own⟩
    · cases e2
/-! ### C(..) -/
def tMakeS (C : Addr) (sp : Sp) (Ex : L2.St → XK) (t : TA) : TE := fun σ H Q => t σ H fun vs H1 => ∀ a dx, H1 a = none → H1 dx = none → dx ≠ a → sp (.ref a :: vs) (upd (upd H1 dx (.own a)) a (.ins C dx [])) (fun v H2 => v = .non ∧ Q (.ref a) H2) (Ex σ)
theorem under_make {A : Around} (h : A.guards = some []) (C : Addr) (us : List Value) : (A.under (.builtin "type.__call__" ⟨.ref C :: us, []⟩)).guards = some [] := by
  have e : (Code.builtin "type.__call__" ⟨.ref C :: us, []⟩).guards = [] := by
    have : (Code.builtin "type.__call__" ⟨.ref C :: us, []⟩).isGuard = false := by
      show guardIds.contains "type.__call__" = false
      decide +kernel
    unfold Code.guards
    rw [this]
    rfl
  unfold Around.under
  dsimp only
  rw [e, h]
  rfl
theorem pe_makeG {X : Cx} {lev : Nat} {C f : Addr} {fd : FuncData} {ps : List Str} {sp : Sp} {Ex : L2.St → XK} {x : Str} {e : Expr} {es : List Expr} {t : TA} (F : FnG X.prog X.w X.K X.mg X.base lev f fd ps sp) (gd : X.A.guards = some []) (room : Room (lev + 1) X.A)
    (glob : Gl X x) (at_ : X.mg x = some (.ref C)) (mk : PySem.W.makesIn X.K C = true) (ini : PySem.W.findIn X.K (.ref C) "__init__" = some (some (.ref f))) (fn : PySem.W.isFn X.K (.ref f) = true) (kp : PySem.W.keepIn X.K (.ref C) = true) (bd : Binds X.K fd ps []) (lv : ∀ σ, PassesAt (L2.CX X.prog X.w) X σ (Ex σ))
    (ha : PA X (e :: es) t) (hdb : (x == ("__debug__" : Str)) = false) (ns : starEach (e :: es) X.env = (false, eval e X.env) :: starEach es X.env) (pl : (backTo pos (starEach es X.env)).any (·.1) = false) : PE X (.Call (.Name x p) (e :: es) [] pos) (tMakeS C sp Ex t) := ⟨fun pins s σ H Q I h =>
  wpAny_Call_Name_kw (ld_glob I glob at_ (PySem.W.callWith_K (h₀ := X.base) I.ok.mod.kin kp (thn (ha.run pos pins s σ H _ I h) fun us s1 z => by
    obtain ⟨vs, H1, J, rv, q⟩ := z
    have q1 := q (s1.heap.objs.size + 1) s1.heap.objs.size (J.hok.fresh (Nat.le_succ _)) (J.hok.fresh (Nat.le_refl _)) (Nat.ne_of_lt (Nat.lt_succ_self _))
    have J2 := Inv.made (C := C) J
    have rv2 : Vals (V.ref (s1.heap.objs.size + 1) :: vs) (Value.ref (s1.heap.objs.size + 1) :: us) := .cons rfl rv
    have n : (Value.ref (s1.heap.objs.size + 1) :: us ++ ([] : List Value)).length = ps.length := by rw [List.append_nil, ← rv2.length]; exact F.many q1
    have b := bd _ (Value.ref (s1.heap.objs.size + 1) :: us) J2.kIn n
    rw [List.append_nil] at b
    refine ⟨J.kIn, wpAny_call (make_map (f := f) J.kIn mk ini (beq_iff_eq.mp fn) (codeAny_mono (F.runs (under_make gd C us) (room.make C us []) (J2.env0.make C us []) b rv2 q1) fun res s2 w => ?_))⟩
    match res, w with
    | .error er, w => exact lv σ pins _ _ er s2 J2 w
    | .ok (.ret u), w =>
      obtain ⟨v, H', J3, rv3, ev, q3⟩ := J2.after w
      subst ev
      exact ⟨rv3, ⟨.ref _, H', J3, rfl, q3⟩⟩) ns pl) hdb)⟩
theorem ev_make {call : Nat → List D → Rr} {cur : Cur} {c : Str} {f : Nat} {as : As} {E : En} : ev call cur (.make c f as) E = (evA call cur as E).bind fun ds E1 => match call f (.ins true c [] [] :: ds) with
    | .ret .non (d :: ps) => .ok d (back as ps E1)
    | .exc k d (_ :: ps) => .exc k d (back as ps E1)
    | _ => .bad := by
  unfold R.bind
  rw [ev]
  cases evA call cur as E <;> rfl
theorem make_rule {X : Cx} {W : WX} {c : Str} {f : Nat} {as : As} (ck : ClsK X.K c) (σ : L2.St) (H : Hp) (Q : VK) (h : tE Γ X W (.make c f as) σ H Q) : tMakeS (He.ga X.K c) (spRun X.K X.mg Γ.enm Γ.tbs Γ.call f) (fun σ => fun cls dd H' => W cls dd σ H') (tA Γ X W as) σ H Q := by
  obtain ⟨F, L, E, cur, rl, q⟩ := h
  rw [ev_make] at q
  refine ⟨F, L, E, cur, rl, Bs.bind0 rl.ok q fun ds E1 q1 vs H1 F1 L1 L2 s1 o1 o2 => ?_⟩
  intro a dx ha hdx ne
  have s2 := Step.newOwned s1.ok (.own a) hdx
  have ha' : upd H1 dx (.own a) a = none := by rw [upd_ne (Ne.symm ne)]; exact ha
  have s3 := Step.newOwned s2.ok (.ins (He.ga X.K c) dx []) ha'
  have s4 : Step F L H F1 (((a, .ins (He.ga X.K c) dx []) :: (dx, .own a) :: L2) ++ L1) (upd (upd H1 dx (.own a)) a (.ins (He.ga X.K c) dx [])) := s1.trans (s2.trans s3)
  refine ⟨F1, (a, .ins (He.ga X.K c) dx []) :: (dx, .own a) :: L2, .ins true c [] [] :: ds, s4.ok.sub (List.sublist_append_left _ _), ⟨.ref a, vs, [(a, .ins (He.ga X.K c) dx []), (dx, .own a)], L2, rfl, rfl, ⟨ck, a, dx, [], [], rfl, rfl, rfl, rfl, rfl⟩, o2.1⟩, fun P h => s4.tab P (rl.tab P h), ?_⟩
  cases e : Γ.call f (.ins true c [] [] :: ds) with
  | ret d ps =>
    rw [e] at q1
    intro v H' F' M1 M2 t o3 o4
    cases d with
    | non =>
      cases ps with
      | nil => exact q1.elim
      | cons d0 ps0 =>
        obtain ⟨v0, r0, Ma, Mb, e0, rfl, k1, k2⟩ := o3
        cases e0
        obtain ⟨rfl, rfl⟩ := o4
        refine ⟨rfl, ?_⟩
        obtain ⟨L', o5, p5⟩ := back_own o2.2 (o1.mono t.ff) k2
        refine q1 (.ref a) H' F' L' Ma ((s4.frame t).prt ?_) o5 k1
        rw [List.nil_append, List.append_assoc]
        exact Prt.app (Prt.refl _) p5
    | _ => exact q1.elim
  | exc k d ps =>
    rw [e] at q1
    intro cls dd H' F' M1 t o3 o4
    cases ps with
    | nil => exact q1.elim
    | cons d0 ps0 =>
      obtain ⟨v0, r0, Ma, Mb, e0, rfl, k1, k2⟩ := o3
      cases e0
      obtain ⟨L', o5, p5⟩ := back_own o2.2 (o1.mono t.ff) k2
      refine q1 cls dd H' F' L' ((s4.frame t).prt ?_) o5 o4
      rw [List.append_assoc]
      exact p5.trans Prt.right
  | bad =>
    rw [e] at q1
    exact q1
theorem ge_make {c : Str} {f : Nat} {e : Expr} {es : List Expr} {as : As} (hm : Γ.mth f = some (c, ("__init__" : Str))) (hc : Γ.calm = true) (ha : GA Γ (e :: es) as) (hg : Glb Γ c := by rfl) (hdb : (c == ("__debug__" : Str)) = false := by decide) (ns : NS e := by intro _ _; rfl) (hpl : ∀ env : PySem.Env, (backTo pos (starEach es env)).any (·.1) = false := by intro _; rfl) :
    GE Γ (.Call (.Name c p) (e :: es) [] pos) (.make c f as) := fun X W cx => by
  obtain ⟨h1, h2, h3, fd, ps, h4, h5⟩ := cx.mth f c _ hm
  obtain ⟨y1, y2, y3, y4, _⟩ := cx.cla c h1
  exact PE.imp (pe_makeG h5 cx.gd (cx.rm1 hc) (gl_of cx hg) y1 y3 h2 h3 y4 h4 (fun σ => passAt cx.tk σ) (ha X W cx) hdb (ns _ _) (hpl _)) (make_rule y2)
/-! ### self.f = e -/
theorem ex_fset {call : Nat → List D → Rr} {W : Nat} {cur : Cur} {cs : List Str} {i : Nat} {f : Str} {m : M} {E : En} : ex call W cur (.fset cs i f m) E = (ev call cur m E).toO fun d E1 => match E1[i]? with
    | some (some (.ins true c ns ds)) => if c ∈ cs ∧ ns.length < 1000 then .nx (E1.set i (some (.ins true c (putN f ns) (putV f d ns ds)))) else .bad
    | _ => .bad := by
  unfold ex R.toO
  cases ev call cur m E <;> rfl
theorem gst_fset {cs : List Str} {i : Nat} {x f : Str} {e : Expr} {m : M} {px pa : Pos} (he : GE Γ e m) (hf : ∀ c ∈ cs, Γ.fat c f = true) (hN : Γ.N[i]? = some x := by rfl) (hv : Vis Γ.sc x := by first | exact Or.inl rfl | exact Or.inr (Or.inl rfl) | exact Or.inr (Or.inr rfl))
    (hs : ∀ (env : PySem.Env) (line : Nat), swapsWith e (some (.Attribute (.Name x px) f pa)) line env = pure false := by intro _ _; rfl) (hd : (x == ("__debug__" : Str)) = false := by decide) (hcd : (x == ("__classdict__" : Str)) = false := by decide) :
    GSt Γ (.Assign [.Attribute (.Name x px) f pa] e pos) (.fset cs i f m) := fun hhv X W c =>
  PS.imp (ps_fld (pe_var (i := i) (by rw [c.n]; exact hN) (by rw [c.sc]; exact hv) hd hcd) (he X W c) (hs _ _)) fun D σ H z => by
  obtain ⟨F, L, E, cur, rl, q⟩ := z
  rw [ex_fset] at q
  refine ⟨F, L, E, cur, rl, Os.bind q fun d E1 q1 v H1 F1 L1 L2 s1 o1 o2 => ?_⟩
  split at q1
  · rename_i k ns ds e1
    split at q1
    · rename_i hk
      obtain ⟨u, La, Lb, h1, h2, h3, h4⟩ := o1.take e1
      obtain ⟨h0, a, dx, ws, Lc, rfl, rfl, h5, h6⟩ := h2
      obtain ⟨M, R0, h7, h8, h9⟩ := OwnL.put (f := f) o2 h6 h5
      obtain ⟨z1, z2⟩ := put_zip (f := f) (v := v) h5
      have e2 : (L2 ++ L1).Perm ((a, .ins (He.ga X.K k) dx (ns.zip ws)) :: ((dx, .own a) :: (L2 ++ (Lc ++ Lb)))) := by
        refine (List.Perm.append_left L2 h4.symm).trans ?_
        show (L2 ++ (((a, HO.ins (He.ga X.K k) dx (ns.zip ws)) :: (dx, HO.own a) :: Lc) ++ Lb)).Perm _
        exact List.perm_middle.trans (List.Perm.cons _ List.perm_middle)
      have s2 := s1.perm e2.symm
      have hH : H1 a = some (.ins (He.ga X.K k) dx (ns.zip ws)) := s2.ok.inH (a, _) List.mem_cons_self
      have s3 := s2.trans (Step.write s2.ok (.ins (He.ga X.K k) dx (putF f v (ns.zip ws))))
      refine ⟨.ref a, h1, a, _, dx, ns.zip ws, rfl, hH, h0.cl, (c.fat _ _ (hf k hk.1)).2, ?_, ?_⟩
      · rw [List.length_zip, ← h5, Nat.min_self]
        exact hk.2
      · have own : Own X.K F1 (.ins true k (putN f ns) (putV f d ns ds)) (.ref a) ((a, .ins (He.ga X.K k) dx (putF f v (ns.zip ws))) :: (dx, .own a) :: M) := ⟨h0, a, dx, putV f v ns ws, M, rfl, by rw [z1], z2, h7⟩
        obtain ⟨L', o7, p7⟩ := h3.fillS (i := i) (get_set (List.getElem?_eq_some_iff.mp e1).1) h1 own
        rw [set_set] at o7
        refine q1 σ _ F1 L' (s3.prt (p7.trans ?_)) o7 (Agr.refl _)
        have pm : Prt M (L2 ++ Lc) := (Prt.of_perm h8).trans (Prt.app (Prt.refl _) (Prt.of_sub h9))
        have pm2 : Prt (M ++ Lb) (L2 ++ (Lc ++ Lb)) := by
          have := Prt.app pm (Prt.refl Lb)
          rwa [List.append_assoc] at this
        exact Prt.app (A := [(a, .ins (He.ga X.K k) dx (putF f v (ns.zip ws))), (dx, .own a)]) (B := [(a, .ins (He.ga X.K k) dx (putF f v (ns.zip ws))), (dx, .own a)]) (Prt.refl _) pm2
    · exact q1.elim
  · exact q1.elim
/-! ### a == b by the text's own __eq__ -/
def rOwn (C : Addr) (sp : Sp) : R2 := fun x y H Q => ∃ a b dx dy fs gs, x = .ref a ∧ y = .ref b ∧ H a = some (.ins C dx fs) ∧ H b = some (.ins C dy gs) ∧ sp [x, y] H (fun v H' => (∃ z, v = .bl z) ∧ Q v H') fun _ _ _ => False
theorem no_leave {P : Program} {w : World} {o : List Env} {H : Hp} {s : Shared} {e : Value} {s' : Shared} (h : L2.CX P w o H s (fun _ _ _ => False) e s') : False := by
  obtain ⟨_, _, _, _, _, _, _, _, _, _, _, _, z⟩ := h
  exact z
theorem op_own {X : Cx} {lev : Nat} {C f : Addr} {fd : FuncData} {ps : List Str} {sp : Sp} (F : FnG X.prog X.w X.K X.mg X.base lev f fd ps sp) (gd : X.A.guards = some []) (room : Room lev X.A) (bd : Binds X.K fd ps [])
    (at_ : PySem.W.findIn X.K (.ref C) "__eq__" = some (some (.ref f))) (fn : PySem.W.isFn X.K (.ref f) = true) : OpR X (compareOp .Eq) (rOwn C sp) := by
  intro pins s σ H x y u v Q I rx ry h
  obtain ⟨a, b, dx, dy, fs, gs, rfl, rfl, ha, hb, hs⟩ := h
  cases rx
  cases ry
  obtain ⟨mA, J, _⟩ := ins_get I.hok ha
  obtain ⟨mB, J', _⟩ := ins_get I.hok hb
  obtain ⟨od, J, _⟩ := J.look
  obtain ⟨od', J', _⟩ := J'.look
  obtain ⟨m, hF⟩ := I.fr
  have rv : Vals [V.ref a, V.ref b] [Value.ref a, Value.ref b] := .cons rfl (.cons rfl .nil)
  have n : ([Value.ref a, Value.ref b] ++ ([] : List Value)).length = ps.length := by rw [List.append_nil, ← rv.length]; exact F.many hs
  have bb := bd s [.ref a, .ref b] I.kIn n
  rw [List.append_nil] at bb
  show wpAny _ _ (richCompare .Eq (.ref a) (.ref b)) _ _ _
  refine PySem.W.cmp_K (op := .Eq) (tb := .ref C) room.units0 hF I.ok.mod.kin J J'.type (by simp [PySem.W.notFirst]) at_ fn (wpAny_call (codeAny_mono (F.runs gd room I.env0 bb rv hs) fun res s2 w => ?_))
  match res, w with
  | .error er, w => exact (no_leave w).elim
  | .ok (.ret u), w =>
    obtain ⟨v, H', I', r3, ⟨z, rfl⟩, q⟩ := I.after w
    cases r3
    exact ⟨.bl z, H', I', rfl, q⟩
theorem ev_cmpI {call : Nat → List D → Rr} {cur : Cur} {c : Str} {f : Nat} {a b : M} {E : En} : ev call cur (.cmpI c f a b) E = (ev call cur a E).bind fun x E1 => (ev call cur b E1).bind fun y E2 => if x.isFz c = true ∧ y.isFz c = true then (match call f [x, y] with
    | .ret (.bl z) [_, _] => .ok (.bl z) E2
    | _ => .bad) else .bad := by
  unfold R.bind
  rw [ev]
  cases ev call cur a E with
  | ok x E1 => dsimp only; cases ev call cur b E1 <;> rfl
  | _ => rfl
theorem isFz_inv {c : Str} {x : D} (h : x.isFz c = true) : ∃ ns ds, x = .ins false c ns ds := by
  cases x with
  | ins o c' ns ds =>
    cases o with
    | false =>
      have e : c' = c := eq_of_beq (show (c' == c) = true from h)
      subst e
      exact ⟨ns, ds, rfl⟩
    | true => cases h
  | _ => cases h
theorem ge_cmpI {c : Str} {f : Nat} {a b : Expr} {ma mb : M} (hm : Γ.mth f = some (c, ("__eq__" : Str))) (hc : Γ.calm = true) (ha : GE Γ a ma) (hb : GE Γ b mb) (hmk : behindInMarks .Eq b = false := by rfl) : GE Γ (.Compare a [.Eq] [b] pos) (.cmpI c f ma mb) := fun X W cx => by
  obtain ⟨h1, h2, h3, fd, ps, h4, h5⟩ := cx.mth f c _ hm
  refine PE.imp (pe_cmpR (op_own h5 cx.gd (cx.rm hc) h4 h2 h3) (ha X W cx) (hb X W cx) hmk) fun σ H Q z => ?_
  obtain ⟨F, L, E, cur, rl, q⟩ := z
  rw [ev_cmpI] at q
  refine ⟨F, L, E, cur, rl, Bs.bind0 rl.ok q fun x E1 q1 v H1 F1 L1 L2 s1 o1 o2 => ?_⟩
  refine ⟨F1, L1, E1, cur, rl.on s1 sub_r o1, Bs.bindS s1 q1 fun y E2 q2 u H2 F2 L1' L2' s2 s3 o3 o4 => ?_⟩
  split at q2
  · rename_i hf
    obtain ⟨n1, d1, rfl⟩ := isFz_inv hf.1
    obtain ⟨n2, d2, rfl⟩ := isFz_inv hf.2
    have e1 := Own.fz_nil rfl o2
    have e2 := Own.fz_nil rfl o4
    subst e1 e2
    have o2' := o2.mono s2.ff
    have o4' := o4
    obtain ⟨h0, _, a, dx, vs, rfl, k3, k4, k5, k6⟩ := o2
    obtain ⟨h0', _, b, dy, vs', rfl, k3', k4', k5', k6'⟩ := o4
    have s3' : Step F L H F2 ([] ++ L1') H2 := s3
    refine ⟨a, b, dx, dy, _, _, rfl, rfl, s3.ok.fH _ _ (s2.ff _ _ k3), s3.ok.fH _ _ k3', ?_⟩
    refine ⟨F2, [], [.ins false c n1 d1, .ins false c n2 d2], s3.ok.sub (List.nil_sublist _), ⟨_, _, [], [], rfl, rfl, o2', _, _, [], [], rfl, rfl, o4', rfl, rfl⟩, fun P h => s3.tab P (rl.tab P h), ?_⟩
    cases e : Γ.call f [.ins false c n1 d1, .ins false c n2 d2] with
    | ret d ps =>
      rw [e] at q2
      intro v H' F' M1 M2 t o5 o6
      cases d with
      | bl z =>
        match ps, q2 with
        | [_, _], q2 =>
          obtain ⟨rfl, rfl⟩ := o6
          exact ⟨⟨z, rfl⟩, q2 (.bl z) H' F' L1' [] ((s3'.frame t).sub (List.sublist_append_right _ _)) (o3.mono t.ff) bl_own⟩
        | [], q2 => exact q2.elim
        | [_], q2 => exact q2.elim
        | _ :: _ :: _ :: _, q2 => exact q2.elim
      | _ => exact q2.elim
    | exc k d ps =>
      rw [e] at q2
      exact q2.elim
    | bad =>
      rw [e] at q2
      exact q2.elim
  · exact q2.elim
end
end VM

/-! Part W: errors held as values. -/
namespace VM
open PySem PySem.Spec PyProof.Rows L2
section
variable {Γ : Ctx} {pos p p1 p2 apos : Pos}
/-! ### their field -/
def tExv (K : PySem.W.Frag) (f : Str) (te : TE) : TE := fun σ H Q => te σ H fun x H1 => ∃ a C dx fs v, x = .ref a ∧ H1 a = some (exo a C (some dx)) ∧ H1 dx = some (exd dx fs) ∧ XfC K C ∧ PySem.W.findIn K (.ref C) f = some none ∧ fs.lookup f = some v ∧ Q v H1
theorem pe_exv {X : Cx} {e : Expr} {te : TE} {f : Str} (he : PE X e te) (hb : attributeBase e f X.env (eval e X.env) = eval e X.env) : PE X (.Attribute e f pos) (tExv X.K f te) := ⟨fun pins s σ H Q I h => attr_of hb (thn (he.run pins s σ H _ I h) fun u s1 hh => by
  obtain ⟨x, H1, I1, rx, a, C, dx, fs, v, rfl, ea, ed, k, no, l, q⟩ := hh
  cases rx
  obtain ⟨ob, od, mA, J, hl, hr⟩ := err_at I1 ea ed
  obtain ⟨u, hu, ru⟩ := RelO.some_of (v := v) (o := mA f) (by rw [← l]; exact hr f)
  exact HandSPX.exc_get I1.kIn J k.ga k.gg k.exC (PySem.W.findObj_own k.hdC no rfl (by rw [hl, hu])) (handed_of ru) ⟨v, H1, I1.tok _, ru, q⟩)⟩
theorem gx_xval {e : Expr} {s : Sx} (he : GX Γ e s) (hb : ∀ env : PySem.Env, attributeBase e "value" env (eval e env) = eval e env := by intro _; rfl) : GX Γ (.Attribute e "value" pos) (.xval s) := fun X W c =>
  PE.imp (pe_exv (he X W c) (hb _)) fun σ H Q h => by
    obtain ⟨F, L, E, cur, d, rl, e, q⟩ := h
    have e : (match sv cur E s with
      | some (.err _ e) => some e
      | _ => none) = some d := e
    split at e
    · rename_i n d0 e1
      cases e
      refine ⟨F, L, E, cur, _, rl, e1, fun v1 H1 F1 L1 s1 p1 o1 => ?_⟩
      obtain ⟨_, h0, a, dx, u, rfl, h3, h4, h5⟩ := o1
      exact ⟨a, _, dx, _, u, rfl, s1.ok.fH _ _ h3, s1.ok.fH _ _ h4, h0.xf, h0.no, rfl, q u H1 F1 [] s1 (fun p hp => by cases hp) h5⟩
    · cases e
/-! ### isinstance -/
/-- isinstance(e, X), X an error of the text -/
theorem gx_isX {e : Expr} {s : Sx} {y : Str} {t : Nat} (ha : GX Γ e s) (hen : ∀ n, Γ.enm n = erns[n]?) (hy : erns[t]? = some y := by rfl) (hgy : Glb Γ y := by rfl) (hg : Glb Γ "isinstance" := by rfl) (hm : Fre Γ "isinstance" := by rfl) (ns : NS e := by intro _ _; rfl) (hdy : (y == ("__debug__" : Str)) = false := by decide) :
    GX Γ (.Call (.Name "isinstance" p) [e, .Name y p1] [] pos) (.op (.isX t) (.cons s .nil)) := fun X W c => by
  have hy' : Γ.enm t = some y := (hen t).trans hy
  obtain ⟨C', ec'⟩ := c.errs t y hy'
  refine PE.imp (pe_callB call_isE1 (gl_of c hg) (bltn_none c hm) (by decide +kernel) (pa_cons (ha X W c) (pa_cons (pe_glob (gl_of c hgy) ec'.g (show RelV (.ref C') (.ref C') from rfl) hdy) pa_nil) (ns _ _)) (he := ns _ _)) fun σ H Q h => ?_
  obtain ⟨F, L, E, cur, d, rl, e, q⟩ := h
  have e : (svs cur E (.cons s .nil)).bind (bop (.isX t)) = some d := e
  obtain ⟨ds, e1, e2⟩ := Option.bind_eq_some_iff.mp e
  obtain ⟨d1, es, e3, e4, rfl⟩ := svs_cons_inv e1
  obtain rfl := svs_nil_inv e4
  refine ⟨F, L, E, cur, d1, rl, e3, fun v1 H1 F1 L1 s1 p1 o1 => ?_⟩
  cases d1 with
  | err n d0 =>
    have e2 : (if n < 26 then some (D.bl (errSub n t)) else none) = some d := e2
    split at e2
    · rename_i hn
      cases e2
      obtain ⟨_, h0, a, dx, u, rfl, h3, h4, h5⟩ := o1
      have hl : n < erns.length := hn
      have en : erns[n]? = some (ern n) := by
        unfold ern
        rw [List.getD_eq_getElem?_getD, List.getElem?_eq_getElem hl] <;> rfl
      obtain ⟨Ca, Cb, m1, m2, _, m3⟩ := c.exms n (ern n) t y ((hen n).trans en) hy'
      obtain ⟨C1, ec1⟩ := c.errs n (ern n) ((hen n).trans en)
      rw [ec1.g] at m1
      rw [ec'.g] at m2
      cases m1
      cases m2
      rw [ec1.ga] at m3
      exact ⟨.ref a, .ref C', .ref (He.ga X.K (ern n)), .ref C', errSub n t, rfl, .own C', .err (s1.ok.fH _ _ h3) (s1.ok.fH _ _ h4) h0, m3, q (.bl (errSub n t)) H1 F1 [] s1 (fun p hp => by cases hp) bl_own⟩
    · cases e2
  | _ => cases e2
theorem gx_isVE {e : Expr} {s : Sx} (ha : GX Γ e s) (hgy : Glb Γ "ValueError" := by rfl) (hmy : Fre Γ "ValueError" := by rfl) (hg : Glb Γ "isinstance" := by rfl) (hm : Fre Γ "isinstance" := by rfl) (ns : NS e := by intro _ _; rfl) :
    GX Γ (.Call (.Name "isinstance" p) [e, .Name "ValueError" p1] [] pos) (.op .isVE (.cons s .nil)) := fun X W c => by
  refine PE.imp (pe_callB call_isE1 (gl_of c hg) (bltn_none c hm) (by decide +kernel) (pa_cons (ha X W c) (pa_cons (pe_bltn (v := .ty "ValueError") (gl_of c hgy) (bltn_none c hmy) (by decide +kernel) rfl (by decide) (by decide)) pa_nil) (ns _ _)) (he := ns _ _)) fun σ H Q h => ?_
  obtain ⟨F, L, E, cur, d, rl, e, q⟩ := h
  have e : (svs cur E (.cons s .nil)).bind (bop .isVE) = some d := e
  obtain ⟨ds, e1, e2⟩ := Option.bind_eq_some_iff.mp e
  obtain ⟨d1, es, e3, e4, rfl⟩ := svs_cons_inv e1
  obtain rfl := svs_nil_inv e4
  refine ⟨F, L, E, cur, d1, rl, e3, fun v1 H1 F1 L1 s1 p1 o1 => ?_⟩
  cases d1 with
  | err n d0 =>
    cases e2
    obtain ⟨_, h0, a, dx, u, rfl, h3, h4, h5⟩ := o1
    exact ⟨.ref a, .ty "ValueError", .ref (He.ga X.K (ern n)), .type "ValueError", true, rfl, .ty _, .err (s1.ok.fH _ _ h3) (s1.ok.fH _ _ h4) h0, h0.is.val, q (.bl true) H1 F1 [] s1 (fun p hp => by cases hp) bl_own⟩
  | _ => cases e2
/-! ### X(v), X() -/
def tMkV (C : Addr) (sp : Sp) (dvs : List V) (ta : TA) : TE := fun σ H Q => ta σ H fun vs H1 => vs.length ≤ 1000 ∧ ∀ a, H1 a = none → sp (.ref a :: (vs ++ dvs)) (upd H1 a (exo a C none)) (fun v H2 => v = .non ∧ Q (.ref a) H2) (fun _ _ _ => False)
theorem mkE_core {X : Cx} {C fI : Addr} {k : Nat} {fd : FuncData} {ps : List Str} {sp : Sp} {ds : List Value} {dvs : List V} (T : OexC X.K C) (iC : PySem.W.findIn X.K (.ref C) "__init__" = some (some (.ref fI))) (tI : PySem.W.typeIn X.K (.ref fI) = some (.type "function"))
    (F1 : FnOk X.prog X.w X.K X.mg X.base CX0 k fI fd ps sp) (hr : Room (k + 1) X.A) (hb : Binds X.K fd ps ds) (hd : Vals dvs ds) {pins : List (Addr × Obj)} {σ : L2.St} {H1 : Hp} {s1 : Shared} {us : List Value} {vs : List V} {Q : VK} (I1 : Inv X pins σ H1 s1) (r1 : Vals vs us) (hz : vs.length ≤ 1000)
    (q1 : ∀ a, H1 a = none → sp (.ref a :: (vs ++ dvs)) (upd H1 a (exo a C none)) (fun v H2 => v = .non ∧ Q (.ref a) H2) (fun _ _ _ => False)) : wpAny (model X.prog X.w) X.A (call (.ref C) us) (EP X pins σ Q) X.xe s1 := by
  obtain ⟨_, _, _, _, bm, _, _, _, _, _, _, _, _, _, _, hC, hbm⟩ := T.cls
  obtain ⟨hp, g, dr, tk, os⟩ := s1
  have up1 : hp.objs.size ≤ hp.objs.size + 1 := Nat.le_add_right _ _
  have no1 : H1 (hp.objs.size + 1) = none := I1.hok.fresh up1
  have q2 := q1 _ no1
  have at1 : ((hp.push (PySem.W.kdv_tup us)).push (PySem.HandSPX.excO C hp.objs.size)).get? (hp.objs.size + 1) = some (PySem.HandSPX.excO C hp.objs.size) := by heap_get
  have I2 : Inv X pins σ (upd H1 (hp.objs.size + 1) (exo (hp.objs.size + 1) C none)) ⟨(hp.push (PySem.W.kdv_tup us)).push (PySem.HandSPX.excO C hp.objs.size), g, dr, tk, os⟩ :=
    Inv.laid (t' := tk) I1 (fun _ _ z => Heap.get?_push_of_some _ (Heap.get?_push_of_some _ z)) up1 (exo_ok at1)
  have r2 : Vals (V.ref (hp.objs.size + 1) :: (vs ++ dvs)) (Value.ref (hp.objs.size + 1) :: (us ++ ds)) := .cons rfl (r1.append hd)
  have many : (Value.ref (hp.objs.size + 1) :: us ++ ds).length = ps.length := (r2.length.symm.trans (F1.len _ _ _ _ q2) : _)
  have few : us.length ≤ sizeLine := by
    rw [← Paired.length r1, sizeLine_eq]
    exact Nat.le_trans hz (by decide)
  refine wpAny_call (PySem.HandSPX.call_own F.excBase_ValueError (fun y => PySem.HandSPX.refsVE_contains y bm hbm) (I1.kIn _ _ hC) (PySem.W.looks_findIn I1.kIn iC) (fun me => PySem.W.bind_fn I1.kIn me tI) few
    (codeAny_mono (F1.run _ X.stack _ _ ⟨Value.ref (hp.objs.size + 1) :: us, []⟩ (Value.ref (hp.objs.size + 1) :: (us ++ ds)) _ _ (fun _ _ _ => False) (hr.make C us []) (I2.env0.make C us []) (hb _ (Value.ref (hp.objs.size + 1) :: us) I2.kIn many) r2 q2) fun res s2 w => ?_))
  match res, w with
  | .error er, w => exact w.elim
  | .ok (.ret u), w =>
    obtain ⟨v, H', J, rv, ev, q3⟩ := I2.after w
    subst ev
    exact ⟨rv, ⟨.ref _, H', J, rfl, q3⟩⟩
theorem ev_mkE {call : Nat → List D → Rr} {cur : Cur} {n : Nat} {as : Ms} {E : En} : ev call cur (.mkE n as) E = (evs call cur as E).bind fun ds E1 => match ds with
    | [] => .ok (.err n .non) E1
    | [d] => .ok (.err n d.frz) E1
    | _ => .bad := by
  unfold R.bind
  rw [ev]
  cases evs call cur as E with
  | ok ds E1 => match ds with
    | [] => rfl
    | [_] => rfl
    | _ :: _ :: _ => rfl
  | _ => rfl
theorem upd_swap {H1 : Hp} {a dx : Addr} {u1 u2 u3 : HO} (ne : dx ≠ a) : upd (upd (upd H1 a u1) dx u2) a u3 = upd (upd H1 dx u2) a u3 := by
  funext b
  by_cases hb : b = a
  · subst hb
    rw [upd_same, upd_same]
  · rw [upd_ne hb, upd_ne hb]
    by_cases hd : b = dx
    · subst hd
      rw [upd_same, upd_same]
    · rw [upd_ne hd, upd_ne hd, upd_ne hb]
theorem exo_NT {e C : Addr} {d : Option Addr} : NT (exo e C d) := fun _ z => exo_tbl z
theorem exd_NT {e : Addr} {fs : List (Str × V)} : NT (exd e fs) := fun _ z => by
  have z' : HO.ext _ = HO.tbl _ := z
  cases z'
/-- the new error -/
theorem err_new {X : Cx} {n : Nat} {C : Addr} {d : D} {v : V} {F : Hp} {L : Fp} {H : Hp} (ec : ErrC X (ern n) C) (ok : Ok F L H) (o : Own X.K F d v []) {a dx : Addr} (ha : H a = none) (hdx : H dx = none) (ne : dx ≠ a) :
    ∃ F', Step F L H F' L (upd (upd H dx (exd dx [(("value" : Str), v)])) a (exo a C (some dx))) ∧ Own X.K F' (.err n d) (.ref a) [] := by
  have s1 := Step.newFrozen ok (exd dx [(("value" : Str), v)]) hdx exd_NT
  have ha' : upd H dx (exd dx [(("value" : Str), v)]) a = none := by rw [upd_ne (Ne.symm ne)]; exact ha
  have s2 := Step.newFrozen s1.ok (exo a C (some dx)) ha' exo_NT
  have e := ec.ga
  refine ⟨_, s1.trans s2, rfl, by rw [← e]; exact ⟨ec.xf, ec.no, ec.is⟩, a, dx, v, rfl, by rw [← e]; exact upd_same, s2.ff _ _ upd_same, (o.mono s1.ff).mono s2.ff⟩
theorem ge_mkE1 {n : Nat} {x : Str} {e : Expr} {m : M} (hc : Γ.calm = true) (he : GE Γ e m) (hx : Γ.enm n = some (ern n) := by rfl) (hn : ern n = x := by rfl) (hg : Glb Γ x := by rfl) (ns : NS e := by intro _ _; rfl) (hdb : (x == ("__debug__" : Str)) = false := by decide) :
    GE Γ (.Call (.Name x p) [e] [] pos) (.mkE n (.cons m .nil)) := fun X W c => by
  subst hn
  obtain ⟨C, ec⟩ := c.errs n (ern n) hx
  obtain ⟨fI, fd, ps, i1, i2, i3, i4, _⟩ := ec.ini
  refine ⟨fun pins s σ H Q I h => wpAny_Call_Name_kw (ld_glob I (gl_of c hg) ec.g (PySem.W.callWith_K (h₀ := X.base) I.ok.mod.kin ec.c.kC (thn ((pa_cons (he X W c) pa_nil (ns _ _)).run pos pins s σ H (fun vs H1 => vs.length ≤ 1000 ∧ ∀ a, H1 a = none → spInit X.K (.ref a :: (vs ++ [])) (upd H1 a (exo a C none)) (fun v H2 => v = .non ∧ Q (.ref a) H2) (fun _ _ _ => False)) I ?_) fun us s1 ⟨vs, H1, I1, r1, hz, q1⟩ => ⟨I1.kIn, mkE_core ec.c i1 i2 i3 (c.rm2 hc) i4 .nil I1 r1 hz q1⟩) (ns _ _) rfl) hdb)⟩
  obtain ⟨F, L, E, cur, rl, q⟩ := h
  rw [ev_mkE, evs_cons] at q
  have q : Bs Γ X W σ F L H (ro X) ((ev Γ.call cur m E).bind fun d E1 => .ok (.err n d.frz) E1) Q := by
    unfold R.bind at q ⊢
    cases z : ev Γ.call cur m E with
    | ok d E1 => rw [z] at q; exact q
    | exc k d E1 => rw [z] at q; exact q
    | bad => rw [z] at q; exact q
  refine ⟨F, L, E, cur, rl, Bs.bind0 rl.ok q fun d E1 q1 v H1 F1 L1 L2 s1 o1 o2 => ?_⟩
  refine ⟨by show 1 ≤ 1000; decide, fun a ha => ⟨a, C, v, rfl, ec.c, ec.no, upd_same, fun dx hdx ne => ⟨rfl, ?_⟩⟩⟩
  rw [upd_ne ne] at hdx
  rw [upd_swap ne]
  have s2 := Step.freeze s1.ok
  have o3 := Own.frz s2.ff d v L2 (addF_in (ND.append.mp s1.ok.nd).1) o2
  obtain ⟨F3, s3, o4⟩ := err_new ec s2.ok o3 ha hdx ne
  exact q1 (.ref a) _ F3 L1 [] ((s1.trans s2).trans s3) ((o1.mono s2.ff).mono s3.ff) o4
theorem ge_mkE0 {n : Nat} {x : Str} (hc : Γ.calm = true) (hx : Γ.enm n = some (ern n) := by rfl) (hn : ern n = x := by rfl) (hg : Glb Γ x := by rfl) (hdb : (x == ("__debug__" : Str)) = false := by decide) :
    GE Γ (.Call (.Name x p) [] [] pos) (.mkE n .nil) := fun X W c => by
  subst hn
  obtain ⟨C, ec⟩ := c.errs n (ern n) hx
  obtain ⟨fI, fd, ps, i1, i2, i3, _, ds, i4, i5⟩ := ec.ini
  refine ⟨fun pins s σ H Q I h => wpAny_Call_Name_kw (ld_glob I (gl_of c hg) ec.g (PySem.W.callWith_K0 I.kIn ec.c.kC (mkE_core ec.c i1 i2 i3 (c.rm2 hc) i5 i4 I .nil (Nat.zero_le _) fun a ha => ?_)) hdb)⟩
  obtain ⟨F, L, E, cur, rl, q⟩ := h
  have q : Bs Γ X W σ F L H (ro X) (.ok (.err n .non) E) Q := q
  refine ⟨a, C, .non, rfl, ec.c, ec.no, upd_same, fun dx hdx ne => ⟨rfl, ?_⟩⟩
  rw [upd_ne ne] at hdx
  rw [upd_swap ne]
  obtain ⟨F3, s3, o4⟩ := err_new (d := .non) ec rl.ok non_own ha hdx ne
  exact q (.ref a) _ F3 L [] s3 (rl.own.mono s3.ff) o4
end
end VM

/-! Part X: !=, and == against others, by the text's own __eq__. -/
namespace VM
open PySem PySem.Spec PyProof.Rows L2 PySem.SeqAt
section
variable {M : Model} {prog : Program} {w : World} {A : Around} {E : Value → Shared → Prop} {s : Shared} {K : PySem.W.Frag} {x C f l : Addr} {ox : Obj} {od : Option Obj} {b : Value}
theorem ifBound_ne {args : List Value} {Q : Option Value → Shared → Prop} (X : K.In s.heap) (I : PySem.W.InstAt s.heap x ox C od) (hs : PySem.W.findIn K (.ref C) "__ne__" = some (some (.builtin "object.__ne__")))
    (h : wpAny M A (call (.builtin "object.__ne__") (.ref x :: args)) (fun v => Q (some v)) E s) : wpAny M A (callSpecialIfBound? (.ref x) "__ne__" args) Q E s := by
  simp only [callSpecialIfBound?, bindSpecialIfBound?]
  refine wpAny_holding (wpAny_bind (wpAny_bind (wpAny_bind (I.type.here ((PySem.W.looks_findIn X hs).here ?_)))))
  refine wpAny_bind (wpAny_askSetting (wpAny_ite ?_))
  have fin : wpAny M A (call (.builtin "object.__ne__") ([.ref x] ++ args) >>= fun v => pure (some v)) Q E s := wpAny_bind (wpAny_mono h (fun v s' z => wpAny_pure z) fun _ _ z => z)
  split
  · exact wpAny_bind (wpAny_of_eq (F.cmp_object.ne.bind _) (wpAny_pure (by exact fin)))
  · exact wpAny_tryCatch (wpAny_bind (wpAny_of_eq (F.cmp_object.ne.bind _) (wpAny_pure (by exact fin))))
/-- what a call of __eq__ told, turned about -/
theorem ne_entry {Q : Fin → Shared → Prop} (hu : A.units < cLine) (X : K.In s.heap) (I : PySem.W.InstAt s.heap x ox C od) (at_ : PySem.W.findIn K (.ref C) "__eq__" = some (some (.ref f))) (fn : PySem.W.isFn K (.ref f) = true)
    (h : wpAny M A (call (.ref f) [.ref x, b]) (fun v s' => ∃ z, v = .bool z ∧ Q (.done (.ret (.bool (!z)))) s') E s) : wpAny M A (Builtin.«object.__ne__» ⟨[.ref x, b], []⟩) Q E s := by
  unfold Builtin.«object.__ne__»
  refine wpAny_bind (wpAny_of_eq (a := ((Value.ref x : Value), [b])) (by first | rfl | (simp only [slotArgs]; rfl)) ?_)
  refine wpAny_bind (wpAny_cRoomFor hu ?_)
  refine wpAny_bind (PySem.W.ifBound_K X I at_ fn (wpAny_mono h (fun v s' hv => ?_) fun _ _ z => z))
  obtain ⟨z, rfl, q⟩ := hv
  exact wpAny_bind (wpAny_truthy_bool (wpAny_pure q))
theorem rc_ne {Q : Value → Shared → Prop} (hu : A.units + 1 < cLine) (X : K.In s.heap) (I : PySem.W.InstAt s.heap x ox C od) (hb : ∀ M, PySem.W.Looks M s.heap (typeOf b) (.ref C)) (hm : PySem.W.mroIn K C (.type "object") = some true) (hn : PySem.W.findIn K (.ref C) "__ne__" = some (some (.builtin "object.__ne__"))) (at_ : PySem.W.findIn K (.ref C) "__eq__" = some (some (.ref f))) (fn : PySem.W.isFn K (.ref f) = true)
    (h : wpAny (model prog w) A.in1 (call (.ref f) [.ref x, b]) (fun v s' => ∃ z, v = .bool z ∧ Q (.bool (!z)) s') E s) : wpAny (model prog w) A (richCompare .NotEq (.ref x) b) Q E s := by
  have one : wpAny (model prog w) A (tryCompare (.ref x) "__ne__" b) (fun r s' => ∃ v, r = some v ∧ Q v s') E s := by
    unfold tryCompare
    refine wpAny_bind (ifBound_ne X I hn (wpAny_call (codeAny_call_builtin F.cmp_object.ne.plain F.cmpEntry_ne (PySem.W.check_slot F.cmpKind_ne F.cmpSplit_ne (I.type.andThen (PySem.W.looks_mroIn X hm)) (F.cmpArgs_ne _ _) (ne_entry (A := A.in1) hu X I at_ fn (wpAny_mono h (fun v s' hv => ?_) fun _ _ z => z))))))
    obtain ⟨z, rfl, q⟩ := hv
    exact ⟨z, rfl, wpAny_pure ⟨_, rfl, q⟩⟩
  simp only [richCompare, cmpInfo_NotEq, oneThing_ref]
  refine wpAny_holding (wpAny_bind (wpAny_cRoomFor (Nat.lt_of_succ_lt hu) ?_))
  refine wpAny_bind (I.type.here (wpAny_bind ((hb _).here ?_)))
  rw [show (Value.ref C != Value.ref C) = false from by simp]
  simp only [Bool.false_eq_true, if_false]
  refine wpAny_bind (wpAny_pure ?_)
  simp only [Bool.false_eq_true, if_false]
  refine wpAny_bind (m := tryCompare (.ref x) _ b) (wpAny_mono one (fun r s' z => ?_) fun _ _ e => e)
  obtain ⟨v, rfl, q⟩ := z
  exact wpAny_pure q
/-- a tuple's __eq__ declines an instance -/
theorem tup_declines {Q : Value → Shared → Prop} (T : s.TypeIs (.ref l) "tuple") (L : ∀ M, PySem.W.Looks M s.heap (isInstance b (.type "tuple")) false) (h : Q .notImplemented s) : wpAny (model prog w) A (call (.builtin "tuple.__eq__") [.ref l, b]) Q E s := by
  refine wpAny_call_entry F.slot_tuple_eq T F.entry_tuple_eq ?_ (F.args_tuple_eq_2 _ _)
  obtain ⟨hp, g, d, tk, os⟩ := s
  repeat (first | with_reducible refine (L _).at ?_ | with_reducible refine (L _).here ?_ | wp_step)
  exact ⟨_, rfl, h⟩
/-- a tuple against an instance: the instance's own __eq__ is asked -/
theorem rc_refl {Q : Value → Shared → Prop} (hu : A.units < cLine) (X : K.In s.heap) (T : s.TypeIs (.ref l) "tuple") (I : PySem.W.InstAt s.heap x ox C od) (hk : ∀ M, PySem.W.Looks M s.heap (isSubtype (.ref C) (.type "tuple")) false) (at_ : PySem.W.findIn K (.ref C) "__eq__" = some (some (.ref f))) (fn : PySem.W.isFn K (.ref f) = true)
    (h : wpAny (model prog w) A (call (.ref f) [.ref x, .ref l]) (PySem.W.CmpBack Q) E s) : wpAny (model prog w) A (richCompare .Eq (.ref l) (.ref x)) Q E s := by
  have one : wpAny (model prog w) A (tryCompare (.ref l) "__eq__" (.ref x)) (fun r s' => r = none ∧ s' = s) E s :=
    wpAny_tryCompare_declines T F.slot_tuple_eq (tup_declines T (fun M => I.type.andThen (hk M)) ⟨rfl, rfl, rfl⟩)
  have two : wpAny (model prog w) A (tryCompare (.ref x) "__eq__" (.ref l)) (fun r s' => ∃ v, r = some v ∧ Q v s') E s := by
    unfold tryCompare
    refine wpAny_bind (PySem.W.ifBound_K X I at_ fn (wpAny_mono h (fun v s' hv => ?_) fun _ _ z => z))
    cases v <;> first | exact hv.elim | exact wpAny_pure ⟨_, rfl, hv⟩
  simp only [richCompare, cmpInfo_Eq, oneThing_ref]
  refine wpAny_holding (wpAny_bind (wpAny_cRoomFor hu ?_))
  refine wpAny_bind (wpAny_typeOf T (wpAny_bind (I.type.here ?_)))
  rw [show (Value.type "tuple" != Value.ref C) = true from rfl]
  simp only [if_true]
  refine wpAny_bind ((hk _).here ?_)
  simp only [Bool.false_eq_true, if_false, Bool.not_false, if_true]
  refine wpAny_bind (m := tryCompare (.ref l) _ (.ref x)) (wpAny_mono one (fun r s1 z => ?_) fun _ _ e => e)
  obtain ⟨rfl, rfl⟩ := z
  refine wpAny_bind (m := tryCompare (.ref x) _ (.ref l)) (wpAny_mono two (fun r s2 z => ?_) fun _ _ e => e)
  obtain ⟨v, rfl, q⟩ := z
  exact wpAny_pure q
end
/-! ### by values -/
def rX0 (C : Addr) (sp : Sp) : R2 := fun x y H Q => ∃ a b dx dy fs gs, x = .ref a ∧ y = .ref b ∧ H a = some (.ins C dx fs) ∧ H b = some (.ins C dy gs) ∧ sp [x, y] H (fun v H' => ∃ z, v = .bl z ∧ Q (.bl (!z)) H') fun _ _ _ => False
def rX1 (K : PySem.W.Frag) (C : Addr) (sp : Sp) : R2 := fun x y H Q => ∃ a dx fs T, x = .ref a ∧ H a = some (.ins C dx fs) ∧ TyX K H y (.type T) ∧ (T = "tuple" ∨ T = "int") ∧ sp [x, y] H (fun v H' => ∃ z, v = .bl z ∧ Q (.bl z) H') fun _ _ _ => False
def rX2 (K : PySem.W.Frag) (C : Addr) (sp : Sp) : R2 := fun x y H Q => ∃ a us b dx fs, x = .ref a ∧ SqT K H a us ∧ y = .ref b ∧ H b = some (.ins C dx fs) ∧ sp [y, x] H (fun v H' => ∃ z, v = .bl z ∧ Q (.bl z) H') fun _ _ _ => False
section
variable {X : Cx} {lev : Nat} {C f : Addr} {fd : FuncData} {ps : List Str} {sp : Sp}
theorem op_x0 (F : FnG X.prog X.w X.K X.mg X.base lev f fd ps sp) (gd : X.A.guards = some []) (room : Room (lev + 1) X.A) (bd : Binds X.K fd ps [])
    (at_ : PySem.W.findIn X.K (.ref C) "__eq__" = some (some (.ref f))) (fn : PySem.W.isFn X.K (.ref f) = true) (hm : PySem.W.mroIn X.K C (.type "object") = some true) (hn : PySem.W.findIn X.K (.ref C) "__ne__" = some (some (.builtin "object.__ne__"))) (hu : X.A.units + 1 < cLine) : OpR X (compareOp .NotEq) (rX0 C sp) := by
  intro pins s σ H x y u v Q I rx ry h
  obtain ⟨a, b, dx, dy, fs, gs, rfl, rfl, ha, hb, hs⟩ := h
  cases rx
  cases ry
  obtain ⟨mA, J, _⟩ := ins_get I.hok ha
  obtain ⟨mB, J', _⟩ := ins_get I.hok hb
  obtain ⟨od, J, _⟩ := J.look
  obtain ⟨od', J', _⟩ := J'.look
  have rv : Vals [V.ref a, V.ref b] [Value.ref a, Value.ref b] := .cons rfl (.cons rfl .nil)
  have n : ([Value.ref a, Value.ref b] ++ ([] : List Value)).length = ps.length := by rw [List.append_nil, ← rv.length]; exact F.many hs
  have bb := bd s [.ref a, .ref b] I.kIn n
  rw [List.append_nil] at bb
  show wpAny _ _ (richCompare .NotEq (.ref a) (.ref b)) _ _ _
  refine rc_ne hu I.kIn J (fun M => J'.type) hm hn at_ fn (wpAny_call (codeAny_mono (F.runs (A := X.A.in1) gd room.in1 (I.env0.in1) bb rv hs) fun res s2 w => ?_))
  match res, w with
  | .error er, w => exact (no_leave w).elim
  | .ok (.ret u), w =>
    obtain ⟨v, H', I', r3, ⟨z, rfl, q⟩⟩ := I.after w
    cases r3
    exact ⟨z, rfl, .bl (!z), H', I', rfl, q⟩
theorem sub_bt {T : String} (h : T = "tuple" ∨ T = "int") {K : PySem.W.Frag} : PySem.W.subIn K (.type T) (.ref C) = some false := by
  have e1 : fastBuiltinMro "tuple" = some [.type "tuple", .type "object"] := by decide +kernel
  have e2 : fastBuiltinMro "int" = some [.type "int", .type "object"] := by decide +kernel
  show (fastBuiltinMro T).map (·.contains (.ref C)) = some false
  rcases h with rfl | rfl
  · rw [e1]
    first
      | rfl
      | simp
  · rw [e2]
    first
      | rfl
      | simp
theorem op_x1 (F : FnG X.prog X.w X.K X.mg X.base lev f fd ps sp) (gd : X.A.guards = some []) (room : Room lev X.A) (bd : Binds X.K fd ps [])
    (at_ : PySem.W.findIn X.K (.ref C) "__eq__" = some (some (.ref f))) (fn : PySem.W.isFn X.K (.ref f) = true) : OpR X (compareOp .Eq) (rX1 X.K C sp) := by
  intro pins s σ H x y u v Q I rx ry h
  obtain ⟨a, dx, fs, T, rfl, ha, ty, hT, hs⟩ := h
  cases rx
  obtain ⟨mA, J, _⟩ := ins_get I.hok ha
  obtain ⟨od, J, _⟩ := J.look
  obtain ⟨m, hF⟩ := I.fr
  obtain ⟨Pr, Z, p, _⟩ := kit_of I ry ty
  have rv : Vals [V.ref a, y] [Value.ref a, v] := .cons rfl (.cons ry .nil)
  have n : ([Value.ref a, v] ++ ([] : List Value)).length = ps.length := by rw [List.append_nil, ← rv.length]; exact F.many hs
  have bb := bd s [.ref a, v] I.kIn n
  rw [List.append_nil] at bb
  show wpAny _ _ (richCompare .Eq (.ref a) v) _ _ _
  refine PySem.W.cmp_K (op := .Eq) (tb := .type T) room.units0 hF I.ok.mod.kin J (Z.ty _ _ I.kIn p) (by unfold PySem.W.notFirst; rw [sub_bt hT]; simp) at_ fn (wpAny_call (codeAny_mono (F.runs gd room I.env0 bb rv hs) fun res s2 w => ?_))
  match res, w with
  | .error er, w => exact (no_leave w).elim
  | .ok (.ret u), w =>
    obtain ⟨v, H', I', r3, ⟨z, rfl, q⟩⟩ := I.after w
    cases r3
    exact ⟨.bl z, H', I', rfl, q⟩
theorem op_x2 (F : FnG X.prog X.w X.K X.mg X.base lev f fd ps sp) (gd : X.A.guards = some []) (room : Room lev X.A) (bd : Binds X.K fd ps [])
    (at_ : PySem.W.findIn X.K (.ref C) "__eq__" = some (some (.ref f))) (fn : PySem.W.isFn X.K (.ref f) = true) (ki : PySem.W.kitOne X.K (.ref C) (.type "tuple") = some false) : OpR X (compareOp .Eq) (rX2 X.K C sp) := by
  intro pins s σ H x y u v Q I rx ry h
  obtain ⟨a, us, b, dx, fs, rfl, hsq, rfl, hb, hs⟩ := h
  cases rx
  cases ry
  obtain ⟨mA, J, _⟩ := ins_get I.hok hb
  obtain ⟨od, J, _⟩ := J.look
  obtain ⟨its, q1, ⟨o, ho, hc, _⟩, _⟩ := I.tuple hsq
  have rv : Vals [V.ref b, V.ref a] [Value.ref b, Value.ref a] := .cons rfl (.cons rfl .nil)
  have n : ([Value.ref b, Value.ref a] ++ ([] : List Value)).length = ps.length := by rw [List.append_nil, ← rv.length]; exact F.many hs
  have bb := bd s [.ref b, .ref a] I.kIn n
  rw [List.append_nil] at bb
  have kc : PySem.W.kitCls X.K (.ref C) (.type "tuple") = some false := by
    unfold PySem.W.kitOne at ki
    rw [if_neg (show ¬ (Value.ref C == Value.type "tuple") = true from fun z => by cases z)] at ki
    exact ki
  show wpAny _ _ (richCompare .Eq (.ref a) (.ref b)) _ _ _
  refine rc_refl room.units0 I.kIn ⟨o, ho, hc⟩ J (fun M => (PySem.W.kit_cls I.kIn kc).2.2) at_ fn (wpAny_call (codeAny_mono (F.runs gd room I.env0 bb rv hs) fun res s2 w => ?_))
  match res, w with
  | .error er, w => exact (no_leave w).elim
  | .ok (.ret u), w =>
    obtain ⟨v, H', I', r3, ⟨z, rfl, q⟩⟩ := I.after w
    cases r3
    exact ⟨.bl z, H', I', rfl, q⟩
end
/-! ### the language's own -/
section
variable {Γ : Ctx} {pos : Pos}
theorem ev_cmpX {call : Nat → List D → Rr} {cur : Cur} {md : Nat} {c : Str} {f : Nat} {a b : M} {E : En} : ev call cur (.cmpX md c f a b) E = (ev call cur a E).bind fun x E1 => (ev call cur b E1).bind fun y E2 => match md with
    | 0 => if x.isFz c = true ∧ y.isFz c = true then (match call f [x, y] with
      | .ret (.bl z) [_, _] => .ok (.bl (!z)) E2
      | _ => .bad) else .bad
    | 1 => if x.isFz c = true ∧ y.isTI = true then (match call f [x, y] with
      | .ret (.bl z) [_, _] => .ok (.bl z) E2
      | _ => .bad) else .bad
    | _ => if x.isTu = true ∧ y.isFz c = true then (match call f [y, x] with
      | .ret (.bl z) [_, _] => .ok (.bl z) E2
      | _ => .bad) else .bad := by
  unfold R.bind
  rw [ev]
  cases ev call cur a E with
  | ok x E1 => dsimp only; cases ev call cur b E1 <;> rfl
  | _ => rfl
/-- what is told by the call -/
theorem told_of {X : Cx} {W : WX} {σ : L2.St} {F : Hp} {L : Fp} {H : Hp} {Q : VK} {r : Rr} {g : Bool → Bool} {E : En} (h : Bs Γ X W σ F L H (ro X) (match r with
      | .ret (.bl z) [_, _] => .ok (.bl (g z)) E
      | _ => .bad) Q) : ∃ z p q, r = .ret (.bl z) [p, q] ∧ Bs Γ X W σ F L H (ro X) (.ok (.bl (g z)) E) Q := by
  cases r with
  | ret d ps =>
    cases d with
    | bl z =>
      match ps, h with
      | [p, q], h => exact ⟨z, p, q, rfl, h⟩
      | [], h => exact h.elim
      | [_], h => exact h.elim
      | _ :: _ :: _ :: _, h => exact h.elim
    | _ => exact h.elim
  | exc k d ps => exact h.elim
  | bad => exact h.elim
theorem sp_of {X : Cx} {f : Nat} {x y p q : D} {v u : V} {F : Hp} {L : Fp} {H : Hp} {z : Bool} {Z : Bool → Hp → Prop} (ok : Ok F L H) (o1 : Own X.K F x v []) (o2 : Own X.K F y u []) (tb : ∀ P, Γ.tbs P → GxR.TabG H P) (e : Γ.call f [x, y] = .ret (.bl z) [p, q])
    (h : ∀ H' F' , Step F [] H F' [] H' → Z z H') : spRun X.K X.mg Γ.enm Γ.tbs Γ.call f [v, u] H (fun v H' => ∃ z, v = .bl z ∧ Z z H') fun _ _ _ => False := by
  refine ⟨F, [], [x, y], ok.sub (List.nil_sublist _), ⟨v, [u], [], [], rfl, rfl, o1, u, [], [], [], rfl, rfl, o2, rfl, rfl⟩, tb, ?_⟩
  rw [e]
  intro v' H' F' M1 M2 t o5 o6
  obtain ⟨rfl, rfl⟩ := o6
  exact ⟨z, rfl, h H' F' (t.sub (List.nil_sublist _))⟩
theorem isTu_inv {x : D} (h : x.isTu = true) : ∃ ds, x = .tup ds := by
  cases x <;> first | exact ⟨_, rfl⟩ | cases h
theorem isTI_ty {K : PySem.W.Frag} {F H : Hp} {x : D} {v : V} {L : Fp} (h : x.isTI = true) (fH : Same F H) (i : InH L H) (o : Own K F x v L) : L = [] ∧ ∃ T, TyX K H v (.type T) ∧ (T = "tuple" ∨ T = "int") := by
  have ty := own_ty fH i o
  cases x with
  | tup ds =>
    rcases ty with ⟨_, ty⟩ | ⟨_, _, _, _, e, _⟩ | ⟨_, _, e, _⟩
    · exact ⟨o.1, _, ty, .inl rfl⟩
    · cases e
    · cases e
  | int i =>
    rcases ty with ⟨_, ty⟩ | ⟨_, _, _, _, e, _⟩ | ⟨_, _, e, _⟩
    · exact ⟨o.2, _, ty, .inr rfl⟩
    · cases e
    · cases e
  | _ => cases h
theorem x0_rule {X : Cx} {W : WX} {c : Str} {f : Nat} {ma mb : M} (σ : L2.St) (H : Hp) (Q : VK) (z : tE Γ X W (.cmpX 0 c f ma mb) σ H Q) : tOp (rX0 (He.ga X.K c) (spRun X.K X.mg Γ.enm Γ.tbs Γ.call f)) (tE Γ X W ma) (tE Γ X W mb) σ H Q := by
  obtain ⟨F, L, E, cur, rl, q⟩ := z
  rw [ev_cmpX] at q
  refine ⟨F, L, E, cur, rl, Bs.bind0 rl.ok q fun x E1 q1 v H1 F1 L1 L2 s1 o1 o2 => ?_⟩
  refine ⟨F1, L1, E1, cur, rl.on s1 sub_r o1, Bs.bindS s1 q1 fun y E2 q2 u H2 F2 L1' L2' s2 s3 o3 o4 => ?_⟩
  have q2 : Bs Γ X W σ F L H (ro X) (if x.isFz c = true ∧ y.isFz c = true then (match Γ.call f [x, y] with
      | .ret (.bl z) [_, _] => .ok (.bl (!z)) E2
      | _ => .bad) else .bad) Q := q2
  split at q2
  · rename_i hf
    obtain ⟨z, p, q, e, q3⟩ := told_of (g := fun z => !z) q2
    obtain ⟨n1, d1, rfl⟩ := isFz_inv hf.1
    obtain ⟨n2, d2, rfl⟩ := isFz_inv hf.2
    have e1 := Own.fz_nil rfl o2
    have e2 := Own.fz_nil rfl o4
    subst e1 e2
    have sp := sp_of (Γ := Γ) (X := X) (Z := fun z H' => Q (.bl (!z)) H') s3.ok (o2.mono s2.ff) o4 (fun P h => s3.tab P (rl.tab P h)) e fun H' F' t => q3 (.bl (!z)) H' F' L1' [] ((Step.frame (A := []) s3 t).sub (List.sublist_append_right _ _)) (o3.mono t.ff) bl_own
    obtain ⟨h0, _, a, dx, vs, rfl, k3, k4, k5, k6⟩ := o2
    obtain ⟨h0', _, b, dy, vs', rfl, k3', k4', k5', k6'⟩ := o4
    exact ⟨a, b, dx, dy, _, _, rfl, rfl, s3.ok.fH _ _ (s2.ff _ _ k3), s3.ok.fH _ _ k3', sp⟩
  · exact q2.elim
theorem ge_cmpX0 {c : Str} {f : Nat} {a b : Expr} {ma mb : M} (hm : Γ.mth f = some (c, ("__eq__" : Str))) (hc : Γ.calm = true) (ha : GE Γ a ma) (hb : GE Γ b mb) (hmk : behindInMarks .NotEq b = false := by rfl) : GE Γ (.Compare a [.NotEq] [b] pos) (.cmpX 0 c f ma mb) := fun X W cx => by
  obtain ⟨h1, h2, h3, fd, ps, h4, h5⟩ := cx.mth f c _ hm
  have ck := (cx.cla c h1).2.1
  exact PE.imp (pe_cmpR (op_x0 h5 cx.gd (cx.rm1 hc) h4 h2 h3 ck.hm ck.ne (by have := cx.un; omega)) (ha X W cx) (hb X W cx) hmk) fun σ H Q z => x0_rule σ H _ z
theorem gt_cmpX0 {c : Str} {f : Nat} {a b : Expr} {ma mb : M} (hm : Γ.mth f = some (c, ("__eq__" : Str))) (hc : Γ.calm = true) (ha : GE Γ a ma) (hb : GE Γ b mb) (hmk : behindInMarks .NotEq b = false := by rfl) : GT Γ (.Compare a [.NotEq] [b] pos) (.cmpX 0 c f ma mb) := fun X W cx => by
  obtain ⟨h1, h2, h3, fd, ps, h4, h5⟩ := cx.mth f c _ hm
  have ck := (cx.cla c h1).2.1
  exact PT.imp (pt_cmpR (op_x0 h5 cx.gd (cx.rm1 hc) h4 h2 h3 ck.hm ck.ne (by have := cx.un; omega)) (ha X W cx) (hb X W cx) hmk) fun σ H Q z => x0_rule σ H _ z
theorem x1_rule {X : Cx} {W : WX} {c : Str} {f : Nat} {ma mb : M} (σ : L2.St) (H : Hp) (Q : VK) (z : tE Γ X W (.cmpX 1 c f ma mb) σ H Q) : tOp (rX1 X.K (He.ga X.K c) (spRun X.K X.mg Γ.enm Γ.tbs Γ.call f)) (tE Γ X W ma) (tE Γ X W mb) σ H Q := by
  obtain ⟨F, L, E, cur, rl, q⟩ := z
  rw [ev_cmpX] at q
  refine ⟨F, L, E, cur, rl, Bs.bind0 rl.ok q fun x E1 q1 v H1 F1 L1 L2 s1 o1 o2 => ?_⟩
  refine ⟨F1, L1, E1, cur, rl.on s1 sub_r o1, Bs.bindS s1 q1 fun y E2 q2 u H2 F2 L1' L2' s2 s3 o3 o4 => ?_⟩
  have q2 : Bs Γ X W σ F L H (ro X) (if x.isFz c = true ∧ y.isTI = true then (match Γ.call f [x, y] with
      | .ret (.bl z) [_, _] => .ok (.bl z) E2
      | _ => .bad) else .bad) Q := q2
  split at q2
  · rename_i hf
    obtain ⟨z, p, q, e, q3⟩ := told_of (g := fun z => z) q2
    obtain ⟨n1, d1, rfl⟩ := isFz_inv hf.1
    have e1 := Own.fz_nil rfl o2
    subst e1
    obtain ⟨e2, T, ty, hT⟩ := isTI_ty (L := L2') hf.2 s3.ok.fH (s3.ok.inH.of fun p hp => List.mem_append_right _ (List.mem_append_left _ hp)) o4
    subst e2
    have sp := sp_of (Γ := Γ) (X := X) (Z := fun z H' => Q (.bl z) H') s3.ok (o2.mono s2.ff) o4 (fun P h => s3.tab P (rl.tab P h)) e fun H' F' t => q3 (.bl z) H' F' L1' [] ((Step.frame (A := []) s3 t).sub (List.sublist_append_right _ _)) (o3.mono t.ff) bl_own
    obtain ⟨h0, _, a, dx, vs, rfl, k3, k4, k5, k6⟩ := o2
    exact ⟨a, dx, _, T, rfl, s3.ok.fH _ _ (s2.ff _ _ k3), ty, hT, sp⟩
  · exact q2.elim
theorem ge_cmpX1 {c : Str} {f : Nat} {a b : Expr} {ma mb : M} (hm : Γ.mth f = some (c, ("__eq__" : Str))) (hc : Γ.calm = true) (ha : GE Γ a ma) (hb : GE Γ b mb) (hmk : behindInMarks .Eq b = false := by rfl) : GE Γ (.Compare a [.Eq] [b] pos) (.cmpX 1 c f ma mb) := fun X W cx => by
  obtain ⟨h1, h2, h3, fd, ps, h4, h5⟩ := cx.mth f c _ hm
  exact PE.imp (pe_cmpR (op_x1 h5 cx.gd (cx.rm hc) h4 h2 h3) (ha X W cx) (hb X W cx) hmk) fun σ H Q z => x1_rule σ H _ z
theorem gt_cmpX1 {c : Str} {f : Nat} {a b : Expr} {ma mb : M} (hm : Γ.mth f = some (c, ("__eq__" : Str))) (hc : Γ.calm = true) (ha : GE Γ a ma) (hb : GE Γ b mb) (hmk : behindInMarks .Eq b = false := by rfl) : GT Γ (.Compare a [.Eq] [b] pos) (.cmpX 1 c f ma mb) := fun X W cx => by
  obtain ⟨h1, h2, h3, fd, ps, h4, h5⟩ := cx.mth f c _ hm
  exact PT.imp (pt_cmpR (op_x1 h5 cx.gd (cx.rm hc) h4 h2 h3) (ha X W cx) (hb X W cx) hmk) fun σ H Q z => x1_rule σ H _ z
theorem x2_rule {X : Cx} {W : WX} {c : Str} {f : Nat} {ma mb : M} (σ : L2.St) (H : Hp) (Q : VK) (z : tE Γ X W (.cmpX 2 c f ma mb) σ H Q) : tOp (rX2 X.K (He.ga X.K c) (spRun X.K X.mg Γ.enm Γ.tbs Γ.call f)) (tE Γ X W ma) (tE Γ X W mb) σ H Q := by
  obtain ⟨F, L, E, cur, rl, q⟩ := z
  rw [ev_cmpX] at q
  refine ⟨F, L, E, cur, rl, Bs.bind0 rl.ok q fun x E1 q1 v H1 F1 L1 L2 s1 o1 o2 => ?_⟩
  refine ⟨F1, L1, E1, cur, rl.on s1 sub_r o1, Bs.bindS s1 q1 fun y E2 q2 u H2 F2 L1' L2' s2 s3 o3 o4 => ?_⟩
  have q2 : Bs Γ X W σ F L H (ro X) (if x.isTu = true ∧ y.isFz c = true then (match Γ.call f [y, x] with
      | .ret (.bl z) [_, _] => .ok (.bl z) E2
      | _ => .bad) else .bad) Q := q2
  split at q2
  · rename_i hf
    obtain ⟨z, p, q, e, q3⟩ := told_of (g := fun z => z) q2
    obtain ⟨xs, rfl⟩ := isTu_inv hf.1
    obtain ⟨n2, d2, rfl⟩ := isFz_inv hf.2
    have e1 := Own.fz_nil rfl o2
    have e2 := Own.fz_nil rfl o4
    subst e1 e2
    have sp := sp_of (Γ := Γ) (X := X) (Z := fun z H' => Q (.bl z) H') s3.ok o4 (o2.mono s2.ff) (fun P h => s3.tab P (rl.tab P h)) e fun H' F' t => q3 (.bl z) H' F' L1' [] ((Step.frame (A := []) s3 t).sub (List.sublist_append_right _ _)) (o3.mono t.ff) bl_own
    obtain ⟨_, a, us, rfl, k3, k4⟩ := o2
    obtain ⟨h0', _, b, dy, vs', rfl, k3', k4', k5', k6'⟩ := o4
    exact ⟨a, us, b, dy, _, rfl, SqT_mono s3.ok.fH (SqT_mono s2.ff k3), rfl, s3.ok.fH _ _ k3', sp⟩
  · exact q2.elim
theorem ge_cmpX2 {c : Str} {f : Nat} {a b : Expr} {ma mb : M} (hm : Γ.mth f = some (c, ("__eq__" : Str))) (hc : Γ.calm = true) (ha : GE Γ a ma) (hb : GE Γ b mb) (hmk : behindInMarks .Eq b = false := by rfl) : GE Γ (.Compare a [.Eq] [b] pos) (.cmpX 2 c f ma mb) := fun X W cx => by
  obtain ⟨h1, h2, h3, fd, ps, h4, h5⟩ := cx.mth f c _ hm
  have ck := (cx.cla c h1).2.1
  exact PE.imp (pe_cmpR (op_x2 h5 cx.gd (cx.rm hc) h4 h2 h3 (ck.ki "tuple" (by simp))) (ha X W cx) (hb X W cx) hmk) fun σ H Q z => x2_rule σ H _ z
theorem gt_cmpX2 {c : Str} {f : Nat} {a b : Expr} {ma mb : M} (hm : Γ.mth f = some (c, ("__eq__" : Str))) (hc : Γ.calm = true) (ha : GE Γ a ma) (hb : GE Γ b mb) (hmk : behindInMarks .Eq b = false := by rfl) : GT Γ (.Compare a [.Eq] [b] pos) (.cmpX 2 c f ma mb) := fun X W cx => by
  obtain ⟨h1, h2, h3, fd, ps, h4, h5⟩ := cx.mth f c _ hm
  have ck := (cx.cla c h1).2.1
  exact PT.imp (pt_cmpR (op_x2 h5 cx.gd (cx.rm hc) h4 h2 h3 (ck.ki "tuple" (by simp))) (ha X W cx) (hb X W cx) hmk) fun σ H Q z => x2_rule σ H _ z
end
end VM

namespace K07
open VM PySem
def b0_0 : S := (.ret (.sx (.and (.op (.isi [.int]) (.cons (.var 0) .nil)) (.not (.op (.isi [.bool]) (.cons (.var 0) .nil))))))
/-- is_integer(value); slots 0 value -/
def b0 : B := (.cons b0_0 .nil)
def b1_0 : S := (.ret (.and (.call 0 (.nm 0 .nil)) (.sx (.chain .le .lt (.cst (.int 0)) (.var 0) (.cst (.int 100))))))
/-- is_sign(value); slots 0 value -/
def b1 : B := (.cons b1_0 .nil)
def b2_E0 : M := (.call 1 (.nm 1 .nil))
def b2_0 : S := (.ifs (.sx (.not (.op (.isi [.list, .tuple]) (.cons (.var 0) .nil)))) (.cons (.ret (.sx (.cst (.bl false)))) .nil) .nil)
def b2_1 : S := (.ret (.op .allB (.cons (.lc (.nm 1) b2_E0 (.sx (.var 0)) (.cst (.bl true))) .nil)))
/-- is_row(value); slots 0 value, 1 sign -/
def b2 : B := (.cons b2_0 (.cons b2_1 .nil))
def b3_0 : S := (.ifs (.not (.call 2 (.nm 0 .nil))) (.cons (.raise 1 (.cons (.sx (.var 0)) .nil)) .nil) .nil)
def b3_1 : S := (.ret (.new .tupOf (.cons (.var 0) .nil)))
/-- checked_row(row); slots 0 row -/
def b3 : B := (.cons b3_0 (.cons b3_1 .nil))
def b4_0 : S := (.ifs (.not (.call 1 (.nm 0 .nil))) (.cons (.raise 2 (.cons (.sx (.var 0)) .nil)) .nil) .nil)
def b4_1 : S := (.ret (.sx (.var 0)))
/-- checked_sign(sign); slots 0 sign -/
def b4 : B := (.cons b4_0 (.cons b4_1 .nil))
def b5_0 : S := (.ifs (.sx (.op .ge (.cons (.aop .add (.cons (.var 1) (.cons (.cst (.int 1)) .nil))) (.cons (.op .len (.cons (.var 0) .nil)) .nil)))) (.cons (.ret (.sx (.cst .non))) .nil) .nil)
def b5_1 : S := (.ifs (.sx (.op .eq (.cons (.op .idx (.cons (.var 0) (.cons (.var 1) .nil))) (.cons (.cst (.int 0)) .nil)))) (.cons (.set (.nm 2) (.new .add (.cons (.aop .add (.cons (.var 1) (.cons (.cst (.int 2)) .nil))) (.cons (.op .idx (.cons (.var 0) (.cons (.aop .add (.cons (.var 1) (.cons (.cst (.int 1)) .nil))) .nil))) .nil)))) (.cons (.ifs (.sx (.op .gt (.cons (.var 2) (.cons (.op .len (.cons (.var 0) .nil)) .nil)))) (.cons (.ret (.sx (.cst .non))) .nil) .nil) (.cons (.ret (.sx (.tup (.cons (.tup (.cons (.cst (.str "put")) (.cons (.aop (.cut true true) (.cons (.var 0) (.cons (.aop .add (.cons (.var 1) (.cons (.cst (.int 2)) .nil))) (.cons (.var 2) .nil)))) .nil))) (.cons (.var 2) .nil))))) .nil))) .nil)
def b5_2 : S := (.ifs (.sx (.op .eq (.cons (.op .idx (.cons (.var 0) (.cons (.var 1) .nil))) (.cons (.cst (.int 1)) .nil)))) (.cons (.ret (.sx (.tup (.cons (.tup (.cons (.cst (.str "plus")) (.cons (.op .idx (.cons (.var 0) (.cons (.aop .add (.cons (.var 1) (.cons (.cst (.int 1)) .nil))) .nil))) .nil))) (.cons (.aop .add (.cons (.var 1) (.cons (.cst (.int 2)) .nil))) .nil))))) .nil) .nil)
def b5_3 : S := (.ifs (.sx (.and (.op .eq (.cons (.op .idx (.cons (.var 0) (.cons (.var 1) .nil))) (.cons (.cst (.int 2)) .nil))) (.op .lt (.cons (.aop .add (.cons (.var 1) (.cons (.cst (.int 2)) .nil))) (.cons (.op .len (.cons (.var 0) .nil)) .nil))))) (.cons (.ret (.sx (.tup (.cons (.tup (.cons (.cst (.str "own")) (.cons (.op .idx (.cons (.var 0) (.cons (.aop .add (.cons (.var 1) (.cons (.cst (.int 1)) .nil))) .nil))) (.cons (.op .idx (.cons (.var 0) (.cons (.aop .add (.cons (.var 1) (.cons (.cst (.int 2)) .nil))) .nil))) .nil)))) (.cons (.aop .add (.cons (.var 1) (.cons (.cst (.int 3)) .nil))) .nil))))) .nil) .nil)
def b5_4 : S := (.ret (.sx (.cst .non)))
/-- item_at(row, at); slots 0 row, 1 at, 2 behind -/
def b5 : B := (.cons b5_0 (.cons b5_1 (.cons b5_2 (.cons b5_3 (.cons b5_4 .nil)))))
def b6_L0 : B := (.cons (.set (.nm 5) (.call 5 (.nm 0 (.nm 3 .nil)))) (.cons (.ifs (.sx (.op .isN (.cons (.var 5) .nil))) (.cons (.ret (.sx (.cst .non))) .nil) .nil) (.cons (.expr (.mut .append 2 (.cons (.sx (.op .idx (.cons (.var 5) (.cons (.cst (.int 0)) .nil)))) .nil))) (.cons (.set (.nm 3) (.sx (.op .idx (.cons (.var 5) (.cons (.cst (.int 1)) .nil))))) .nil))))
def b6_0 : S := (.ifs (.sx (.op .ge (.cons (.var 1) (.cons (.op .len (.cons (.var 0) .nil)) .nil)))) (.cons (.ret (.sx (.cst .non))) .nil) .nil)
def b6_1 : S := (.set (.nm 2) (.lst .nil))
def b6_2 : S := (.set (.nm 3) (.new .add (.cons (.var 1) (.cons (.cst (.int 1)) .nil))))
def b6_3 : S := (.fors (.nm 4) (.rng1 (.op .idx (.cons (.var 0) (.cons (.var 1) .nil)))) b6_L0)
def b6_4 : S := (.ret (.sx (.tup (.cons (.aop .tupOf (.cons (.var 2) .nil)) (.cons (.var 3) .nil)))))
/-- items_at(row, at); slots 0 row, 1 at, 2 items, 3 place, 4 turn, 5 found -/
def b6 : B := (.cons b6_0 (.cons b6_1 (.cons b6_2 (.cons b6_3 (.cons b6_4 .nil)))))
def b7_0 : S := (.ifs (.sx (.op .ge (.cons (.var 1) (.cons (.op .len (.cons (.var 0) .nil)) .nil)))) (.cons (.ret (.sx (.cst .non))) .nil) .nil)
def b7_1 : S := (.ifs (.sx (.op .eq (.cons (.op .idx (.cons (.var 0) (.cons (.var 1) .nil))) (.cons (.cst (.int 1)) .nil)))) (.cons (.ret (.sx (.tup (.cons (.cst (.str "other")) (.cons (.aop .add (.cons (.var 1) (.cons (.cst (.int 1)) .nil))) .nil))))) .nil) .nil)
def b7_2 : S := (.ifs (.sx (.op .eq (.cons (.op .idx (.cons (.var 0) (.cons (.var 1) .nil))) (.cons (.cst (.int 2)) .nil)))) (.cons (.ret (.sx (.tup (.cons (.cst (.str "end")) (.cons (.aop .add (.cons (.var 1) (.cons (.cst (.int 1)) .nil))) .nil))))) .nil) .nil)
def b7_3 : S := (.ifs (.sx (.and (.op .eq (.cons (.op .idx (.cons (.var 0) (.cons (.var 1) .nil))) (.cons (.cst (.int 0)) .nil))) (.op .lt (.cons (.aop .add (.cons (.var 1) (.cons (.cst (.int 1)) .nil))) (.cons (.op .len (.cons (.var 0) .nil)) .nil))))) (.cons (.ret (.sx (.tup (.cons (.op .idx (.cons (.var 0) (.cons (.aop .add (.cons (.var 1) (.cons (.cst (.int 1)) .nil))) .nil))) (.cons (.aop .add (.cons (.var 1) (.cons (.cst (.int 2)) .nil))) .nil))))) .nil) .nil)
def b7_4 : S := (.ret (.sx (.cst .non)))
/-- word_at(row, at); slots 0 row, 1 at -/
def b7 : B := (.cons b7_0 (.cons b7_1 (.cons b7_2 (.cons b7_3 (.cons b7_4 .nil)))))
def b8_0 : S := (.set (.nm 2) (.call 7 (.nm 0 (.ex (.new .add (.cons (.var 1) (.cons (.cst (.int 1)) .nil))) .nil))))
def b8_1 : S := (.ifs (.sx (.op .isN (.cons (.var 2) .nil))) (.cons (.ret (.sx (.cst .non))) .nil) .nil)
def b8_2 : S := (.set (.nm 3) (.call 6 (.nm 0 (.ex (.sx (.op .idx (.cons (.var 2) (.cons (.cst (.int 1)) .nil)))) .nil))))
def b8_3 : S := (.ifs (.sx (.op .isN (.cons (.var 3) .nil))) (.cons (.ret (.sx (.cst .non))) .nil) .nil)
def b8_4 : S := (.ifs (.sx (.op .eq (.cons (.op .idx (.cons (.var 2) (.cons (.cst (.int 0)) .nil))) (.cons (.cst (.str "end")) .nil)))) (.cons (.ret (.sx (.tup (.cons (.tup (.cons (.op .idx (.cons (.var 0) (.cons (.var 1) .nil))) (.cons (.op .idx (.cons (.var 2) (.cons (.cst (.int 0)) .nil))) (.cons (.op .idx (.cons (.var 3) (.cons (.cst (.int 0)) .nil))) (.cons (.cst .non) .nil))))) (.cons (.op .idx (.cons (.var 3) (.cons (.cst (.int 1)) .nil))) .nil))))) .nil) .nil)
def b8_5 : S := (.ifs (.sx (.op .ge (.cons (.op .idx (.cons (.var 3) (.cons (.cst (.int 1)) .nil))) (.cons (.op .len (.cons (.var 0) .nil)) .nil)))) (.cons (.ret (.sx (.cst .non))) .nil) .nil)
def b8_6 : S := (.ret (.sx (.tup (.cons (.tup (.cons (.op .idx (.cons (.var 0) (.cons (.var 1) .nil))) (.cons (.op .idx (.cons (.var 2) (.cons (.cst (.int 0)) .nil))) (.cons (.op .idx (.cons (.var 3) (.cons (.cst (.int 0)) .nil))) (.cons (.op .idx (.cons (.var 0) (.cons (.op .idx (.cons (.var 3) (.cons (.cst (.int 1)) .nil))) .nil))) .nil))))) (.cons (.aop .add (.cons (.op .idx (.cons (.var 3) (.cons (.cst (.int 1)) .nil))) (.cons (.cst (.int 1)) .nil))) .nil)))))
/-- rule_at(row, at); slots 0 row, 1 at, 2 word, 3 items -/
def b8 : B := (.cons b8_0 (.cons b8_1 (.cons b8_2 (.cons b8_3 (.cons b8_4 (.cons b8_5 (.cons b8_6 .nil)))))))
def b9_0 : S := (.ifs (.sx (.or (.not (.op (.isi [.tuple]) (.cons (.var 0) .nil))) (.or (.op .eq (.cons (.op .len (.cons (.var 0) .nil)) (.cons (.cst (.int 0)) .nil))) (.not (.op (.isi [.str]) (.cons (.op .idx (.cons (.var 0) (.cons (.cst (.int 0)) .nil))) .nil)))))) (.cons (.ret (.sx (.cst (.bl false)))) .nil) .nil)
def b9_1 : S := (.ifs (.sx (.op .eq (.cons (.op .idx (.cons (.var 0) (.cons (.cst (.int 0)) .nil))) (.cons (.cst (.str "put")) .nil)))) (.cons (.ret (.and (.sx (.op .eq (.cons (.op .len (.cons (.var 0) .nil)) (.cons (.cst (.int 2)) .nil)))) (.and (.call 2 (.ex (.sx (.op .idx (.cons (.var 0) (.cons (.cst (.int 1)) .nil)))) .nil)) (.sx (.op .le (.cons (.op .len (.cons (.op .idx (.cons (.var 0) (.cons (.cst (.int 1)) .nil))) .nil)) (.cons (.cst (.int 99)) .nil))))))) .nil) .nil)
def b9_2 : S := (.ifs (.sx (.op .eq (.cons (.op .idx (.cons (.var 0) (.cons (.cst (.int 0)) .nil))) (.cons (.cst (.str "plus")) .nil)))) (.cons (.ret (.and (.sx (.op .eq (.cons (.op .len (.cons (.var 0) .nil)) (.cons (.cst (.int 2)) .nil)))) (.call 1 (.ex (.sx (.op .idx (.cons (.var 0) (.cons (.cst (.int 1)) .nil)))) .nil)))) .nil) .nil)
def b9_3 : S := (.ifs (.sx (.op .eq (.cons (.op .idx (.cons (.var 0) (.cons (.cst (.int 0)) .nil))) (.cons (.cst (.str "own")) .nil)))) (.cons (.ret (.and (.sx (.op .eq (.cons (.op .len (.cons (.var 0) .nil)) (.cons (.cst (.int 3)) .nil)))) (.and (.call 1 (.ex (.sx (.op .idx (.cons (.var 0) (.cons (.cst (.int 1)) .nil)))) .nil)) (.call 1 (.ex (.sx (.op .idx (.cons (.var 0) (.cons (.cst (.int 2)) .nil)))) .nil))))) .nil) .nil)
def b9_4 : S := (.ret (.sx (.cst (.bl false))))
/-- is_item(thing); slots 0 thing -/
def b9 : B := (.cons b9_0 (.cons b9_1 (.cons b9_2 (.cons b9_3 (.cons b9_4 .nil)))))
def b10_L0 : B := (.cons (.ifs (.not (.call 9 (.nm 1 .nil))) (.cons (.ret (.sx (.cst (.bl false)))) .nil) .nil) .nil)
def b10_0 : S := (.ifs (.or (.sx (.not (.op (.isi [.tuple]) (.cons (.var 0) .nil)))) (.or (.sx (.op .ne (.cons (.op .len (.cons (.var 0) .nil)) (.cons (.cst (.int 4)) .nil)))) (.not (.call 1 (.ex (.sx (.op .idx (.cons (.var 0) (.cons (.cst (.int 0)) .nil)))) .nil))))) (.cons (.ret (.sx (.cst (.bl false)))) .nil) .nil)
def b10_1 : S := (.ifs (.sx (.or (.not (.op (.isi [.list, .tuple]) (.cons (.op .idx (.cons (.var 0) (.cons (.cst (.int 2)) .nil))) .nil))) (.op .gt (.cons (.op .len (.cons (.op .idx (.cons (.var 0) (.cons (.cst (.int 2)) .nil))) .nil)) (.cons (.cst (.int 99)) .nil))))) (.cons (.ret (.sx (.cst (.bl false)))) .nil) .nil)
def b10_2 : S := (.fors (.nm 1) (.sx (.op .idx (.cons (.var 0) (.cons (.cst (.int 2)) .nil)))) b10_L0)
def b10_3 : S := (.ifs (.sx (.op (.isi [.str]) (.cons (.op .idx (.cons (.var 0) (.cons (.cst (.int 1)) .nil))) .nil))) (.cons (.ifs (.sx (.op .eq (.cons (.op .idx (.cons (.var 0) (.cons (.cst (.int 1)) .nil))) (.cons (.cst (.str "end")) .nil)))) (.cons (.ret (.sx (.op .isN (.cons (.op .idx (.cons (.var 0) (.cons (.cst (.int 3)) .nil))) .nil)))) .nil) .nil) (.cons (.ret (.and (.sx (.op .eq (.cons (.op .idx (.cons (.var 0) (.cons (.cst (.int 1)) .nil))) (.cons (.cst (.str "other")) .nil)))) (.call 1 (.ex (.sx (.op .idx (.cons (.var 0) (.cons (.cst (.int 3)) .nil)))) .nil)))) .nil)) .nil)
def b10_4 : S := (.ret (.and (.call 1 (.ex (.sx (.op .idx (.cons (.var 0) (.cons (.cst (.int 1)) .nil)))) .nil)) (.call 1 (.ex (.sx (.op .idx (.cons (.var 0) (.cons (.cst (.int 3)) .nil)))) .nil))))
/-- is_rule(thing); slots 0 thing, 1 item -/
def b10 : B := (.cons b10_0 (.cons b10_1 (.cons b10_2 (.cons b10_3 (.cons b10_4 .nil)))))
def b11_0 : S := (.ifs (.sx (.op .eq (.cons (.op .idx (.cons (.var 0) (.cons (.cst (.int 0)) .nil))) (.cons (.cst (.str "put")) .nil)))) (.cons (.ret (.aop .add (.cons (.lst (.cons (.sx (.cst (.int 0))) (.cons (.sx (.op .len (.cons (.op .idx (.cons (.var 0) (.cons (.cst (.int 1)) .nil))) .nil))) .nil))) (.cons (.sx (.aop .lstOf (.cons (.op .idx (.cons (.var 0) (.cons (.cst (.int 1)) .nil))) .nil))) .nil)))) .nil) .nil)
def b11_1 : S := (.ifs (.sx (.op .eq (.cons (.op .idx (.cons (.var 0) (.cons (.cst (.int 0)) .nil))) (.cons (.cst (.str "plus")) .nil)))) (.cons (.ret (.lst (.cons (.sx (.cst (.int 1))) (.cons (.sx (.op .idx (.cons (.var 0) (.cons (.cst (.int 1)) .nil)))) .nil)))) .nil) .nil)
def b11_2 : S := (.ret (.lst (.cons (.sx (.cst (.int 2))) (.cons (.sx (.op .idx (.cons (.var 0) (.cons (.cst (.int 1)) .nil)))) (.cons (.sx (.op .idx (.cons (.var 0) (.cons (.cst (.int 2)) .nil)))) .nil)))))
/-- signs_of_item(item); slots 0 item -/
def b11 : B := (.cons b11_0 (.cons b11_1 (.cons b11_2 .nil)))
def b12_L0 : B := (.cons (.expr (.mut .extend 1 (.cons (.call 11 (.nm 2 .nil)) .nil))) .nil)
def b12_0 : S := (.set (.nm 1) (.lst (.cons (.sx (.op .idx (.cons (.var 0) (.cons (.cst (.int 0)) .nil)))) .nil)))
def b12_1 : S := (.ifs (.sx (.op .eq (.cons (.op .idx (.cons (.var 0) (.cons (.cst (.int 1)) .nil))) (.cons (.cst (.str "other")) .nil)))) (.cons (.expr (.mut .append 1 (.cons (.sx (.cst (.int 1))) .nil))) .nil) (.cons (.ifs (.sx (.op .eq (.cons (.op .idx (.cons (.var 0) (.cons (.cst (.int 1)) .nil))) (.cons (.cst (.str "end")) .nil)))) (.cons (.expr (.mut .append 1 (.cons (.sx (.cst (.int 2))) .nil))) .nil) (.cons (.expr (.mut .extend 1 (.cons (.lst (.cons (.sx (.cst (.int 0))) (.cons (.sx (.op .idx (.cons (.var 0) (.cons (.cst (.int 1)) .nil)))) .nil))) .nil))) .nil)) .nil))
def b12_2 : S := (.expr (.mut .append 1 (.cons (.sx (.op .len (.cons (.op .idx (.cons (.var 0) (.cons (.cst (.int 2)) .nil))) .nil))) .nil)))
def b12_3 : S := (.fors (.nm 2) (.sx (.op .idx (.cons (.var 0) (.cons (.cst (.int 2)) .nil)))) b12_L0)
def b12_4 : S := (.ifs (.sx (.op .notN (.cons (.op .idx (.cons (.var 0) (.cons (.cst (.int 3)) .nil))) .nil))) (.cons (.expr (.mut .append 1 (.cons (.sx (.op .idx (.cons (.var 0) (.cons (.cst (.int 3)) .nil)))) .nil))) .nil) .nil)
def b12_5 : S := (.ret (.tk 1))
/-- signs_of_rule(rule); slots 0 rule, 1 signs, 2 item -/
def b12 : B := (.cons b12_0 (.cons b12_1 (.cons b12_2 (.cons b12_3 (.cons b12_4 (.cons b12_5 .nil))))))
def b13_L0 : B := (.cons (.ifs (.not (.call 10 (.nm 4 .nil))) (.cons (.raise 3 (.cons (.sx (.var 3)) .nil)) .nil) .nil) (.cons (.expr (.mut .extend 2 (.cons (.call 12 (.nm 4 .nil)) .nil))) .nil))
def b13_0 : S := (.expr (.call 4 (.nm 0 .nil)))
def b13_1 : S := (.ifs (.sx (.not (.op (.isi [.list, .tuple]) (.cons (.var 1) .nil)))) (.cons (.raise 3 (.cons (.sx (.op .neg (.cons (.cst (.int 1)) .nil))) .nil)) .nil) .nil)
def b13_2 : S := (.set (.nm 2) (.lst (.cons (.sx (.var 0)) .nil)))
def b13_3 : S := (.fors (.tup [3, 4]) (.enum (.var 1)) b13_L0)
def b13_4 : S := (.ret (.new .tupOf (.cons (.var 2) .nil)))
/-- body_for(start, rules); slots 0 start, 1 rules, 2 signs, 3 at, 4 rule -/
def b13 : B := (.cons b13_0 (.cons b13_1 (.cons b13_2 (.cons b13_3 (.cons b13_4 .nil)))))
def b14_0 : S := (.ret (.lst (.cons (.sx (.aop .lstOf (.cons (.var 0) .nil))) (.cons (.sx (.cst (.int 0))) (.cons (.sx (.cst (.int 0))) (.cons (.sx (.cst (.int 1))) (.cons (.sx (.cst (.int 0))) .nil)))))))
/-- _law_tape(script); slots 0 script -/
def b14 : B := (.cons b14_0 .nil)
def b15_0 : S := (.ifs (.sx (.op .gt (.cons (.op .idx (.cons (.var 0) (.cons (.cst (.int 2)) .nil))) (.cons (.cst (.int 1)) .nil)))) (.cons (.set (.nm 4) (.sx (.op .mod (.cons (.op .toInt (.cons (.op .idx (.cons (.var 0) (.cons (.cst (.int 2)) .nil))) .nil)) (.cons (.var 1) .nil))))) (.cons (.put 0 (.cst (.int 2)) (.sx (.op .fdiv (.cons (.op .idx (.cons (.var 0) (.cons (.cst (.int 2)) .nil))) (.cons (.var 1) .nil))))) (.cons (.ret (.sx (.var 4))) .nil))) .nil)
def b15_1 : S := (.put 0 (.cst (.int 4)) (.sx (.aop .add (.cons (.op .idx (.cons (.var 0) (.cons (.cst (.int 4)) .nil))) (.cons (.cst (.int 1)) .nil)))))
def b15_2 : S := (.set (.nm 2) (.sx (.cst (.int 0))))
def b15_3 : S := (.ifs (.sx (.op .lt (.cons (.op .idx (.cons (.var 0) (.cons (.cst (.int 1)) .nil))) (.cons (.op .len (.cons (.op .idx (.cons (.var 0) (.cons (.cst (.int 0)) .nil))) .nil)) .nil)))) (.cons (.set (.nm 2) (.sx (.op .idx (.cons (.op .idx (.cons (.var 0) (.cons (.cst (.int 0)) .nil))) (.cons (.op .idx (.cons (.var 0) (.cons (.cst (.int 1)) .nil))) .nil))))) (.cons (.put 0 (.cst (.int 1)) (.sx (.aop .add (.cons (.op .idx (.cons (.var 0) (.cons (.cst (.int 1)) .nil))) (.cons (.cst (.int 1)) .nil))))) .nil)) .nil)
def b15_4 : S := (.ifs (.sx (.op .ge (.cons (.var 2) (.cons (.op .pow (.cons (.cst (.int 10)) (.cons (.cst (.int 18)) .nil))) .nil)))) (.cons (.put 0 (.cst (.int 2)) (.sx (.op .fdiv (.cons (.var 2) (.cons (.var 1) .nil))))) (.cons (.ret (.sx (.op .mod (.cons (.op .toInt (.cons (.var 2) .nil)) (.cons (.var 1) .nil))))) .nil)) .nil)
def b15_5 : S := (.set (.nm 3) (.sx (.op .mod (.cons (.op .toInt (.cons (.aop .add (.cons (.aop .add (.cons (.aop .mul (.cons (.op .idx (.cons (.var 0) (.cons (.cst (.int 3)) .nil))) (.cons (.cst (.int 48271)) .nil))) (.cons (.op .mod (.cons (.op .toInt (.cons (.var 2) .nil)) (.cons (.cst (.int 2147483629)) .nil))) .nil))) (.cons (.aop .mul (.cons (.op .idx (.cons (.var 0) (.cons (.cst (.int 4)) .nil))) (.cons (.cst (.int 69621)) .nil))) .nil))) .nil)) (.cons (.cst (.int 2147483647)) .nil)))))
def b15_6 : S := (.set (.nm 3) (.sx (.op .mod (.cons (.op .toInt (.cons (.aop .mul (.cons (.var 3) (.cons (.aop .add (.cons (.op .fdiv (.cons (.var 3) (.cons (.cst (.int 1009)) .nil))) (.cons (.cst (.int 40692)) .nil))) .nil))) .nil)) (.cons (.cst (.int 2147483399)) .nil)))))
def b15_7 : S := (.put 0 (.cst (.int 3)) (.sx (.var 3)))
def b15_8 : S := (.ret (.sx (.op .mod (.cons (.op .toInt (.cons (.op .fdiv (.cons (.var 3) (.cons (.cst (.int 16)) .nil))) .nil)) (.cons (.var 1) .nil)))))
/-- _law_pick(tape, size); slots 0 tape, 1 size, 2 cell, 3 mixed, 4 digit -/
def b15 : B := (.cons b15_0 (.cons b15_1 (.cons b15_2 (.cons b15_3 (.cons b15_4 (.cons b15_5 (.cons b15_6 (.cons b15_7 (.cons b15_8 .nil)))))))))
def b16_0 : S := (.set (.nm 1) (.call 15 (.nm 0 (.ex (.sx (.cst (.int 4))) .nil))))
def b16_1 : S := (.ifs (.sx (.op .eq (.cons (.var 1) (.cons (.cst (.int 0)) .nil)))) (.cons (.ret (.call 15 (.nm 0 (.ex (.sx (.cst (.int 100))) .nil)))) .nil) .nil)
def b16_2 : S := (.ifs (.sx (.op .eq (.cons (.var 1) (.cons (.cst (.int 1)) .nil)))) (.cons (.ret (.op .sub (.cons (.sx (.cst (.int 99))) (.cons (.call 15 (.nm 0 (.ex (.sx (.cst (.int 3))) .nil))) .nil)))) .nil) .nil)
def b16_3 : S := (.ret (.call 15 (.nm 0 (.ex (.sx (.cst (.int 5))) .nil))))
/-- _law_sign(tape); slots 0 tape, 1 kind -/
def b16 : B := (.cons b16_0 (.cons b16_1 (.cons b16_2 (.cons b16_3 .nil))))
def b17_L0 : B := (.cons (.expr (.mut .append 2 (.cons (.call 16 (.nm 0 .nil)) .nil))) .nil)
def b17_0 : S := (.set (.nm 2) (.lst .nil))
def b17_1 : S := (.fors (.nm 3) (.rng1 (.var 1)) b17_L0)
def b17_2 : S := (.ret (.tk 2))
/-- _law_signs(tape, many); slots 0 tape, 1 many, 2 row, 3 k -/
def b17 : B := (.cons b17_0 (.cons b17_1 (.cons b17_2 .nil)))
def b18_0 : S := (.set (.nm 1) (.call 15 (.nm 0 (.ex (.sx (.cst (.int 6))) .nil))))
def b18_1 : S := (.ifs (.sx (.op .le (.cons (.var 1) (.cons (.cst (.int 2)) .nil)))) (.cons (.set (.nm 2) (.call 15 (.nm 0 (.ex (.sx (.cst (.int 3))) .nil)))) (.cons (.ifs (.op .eq (.cons (.call 15 (.nm 0 (.ex (.sx (.cst (.int 23))) .nil))) (.cons (.sx (.cst (.int 0))) .nil))) (.cons (.set (.nm 2) (.aop .add (.cons (.sx (.cst (.int 20))) (.cons (.call 15 (.nm 0 (.ex (.sx (.cst (.int 80))) .nil))) .nil)))) .nil) .nil) (.cons (.ret (.tup (.cons (.sx (.cst (.str "put"))) (.cons (.aop .tupOf (.cons (.call 17 (.nm 0 (.nm 2 .nil))) .nil)) .nil)))) .nil))) .nil)
def b18_2 : S := (.ifs (.sx (.op .le (.cons (.var 1) (.cons (.cst (.int 4)) .nil)))) (.cons (.ret (.tup (.cons (.sx (.cst (.str "plus"))) (.cons (.call 16 (.nm 0 .nil)) .nil)))) .nil) .nil)
def b18_3 : S := (.ret (.tup (.cons (.sx (.cst (.str "own"))) (.cons (.call 16 (.nm 0 .nil)) (.cons (.call 16 (.nm 0 .nil)) .nil)))))
/-- _law_a_item(tape); slots 0 tape, 1 kind, 2 size -/
def b18 : B := (.cons b18_0 (.cons b18_1 (.cons b18_2 (.cons b18_3 .nil))))
def b19_L0 : B := (.cons (.expr (.mut .append 4 (.cons (.call 18 (.nm 0 .nil)) .nil))) .nil)
def b19_0 : S := (.set (.nm 2) (.call 15 (.nm 0 (.nm 1 .nil))))
def b19_1 : S := (.set (.nm 3) (.call 15 (.nm 0 (.ex (.sx (.cst (.int 5))) .nil))))
def b19_2 : S := (.set (.nm 4) (.lst .nil))
def b19_3 : S := (.fors (.nm 5) (.rngM (.call 15 (.nm 0 (.ex (.sx (.cst (.int 4))) .nil)))) b19_L0)
def b19_4 : S := (.ifs (.sx (.op .eq (.cons (.var 3) (.cons (.cst (.int 0)) .nil)))) (.cons (.ret (.sx (.tup (.cons (.var 2) (.cons (.cst (.str "end")) (.cons (.aop .tupOf (.cons (.var 4) .nil)) (.cons (.cst .non) .nil))))))) .nil) .nil)
def b19_5 : S := (.set (.nm 6) (.call 15 (.nm 0 (.nm 1 .nil))))
def b19_6 : S := (.ifs (.sx (.op .le (.cons (.var 3) (.cons (.cst (.int 2)) .nil)))) (.cons (.ret (.sx (.tup (.cons (.var 2) (.cons (.cst (.str "other")) (.cons (.aop .tupOf (.cons (.var 4) .nil)) (.cons (.var 6) .nil))))))) .nil) .nil)
def b19_7 : S := (.ret (.tup (.cons (.sx (.var 2)) (.cons (.call 16 (.nm 0 .nil)) (.cons (.sx (.aop .tupOf (.cons (.var 4) .nil))) (.cons (.sx (.var 6)) .nil))))))
/-- _law_a_rule(tape, stands); slots 0 tape, 1 stands, 2 stand, 3 kind, 4 items, 5 k, 6 follows -/
def b19 : B := (.cons b19_0 (.cons b19_1 (.cons b19_2 (.cons b19_3 (.cons b19_4 (.cons b19_5 (.cons b19_6 (.cons b19_7 .nil))))))))
def b20_L0 : B := (.cons (.expr (.mut .append 3 (.cons (.call 19 (.nm 0 (.nm 2 .nil))) .nil))) .nil)
def b20_0 : S := (.set (.nm 2) (.aop .add (.cons (.sx (.cst (.int 1))) (.cons (.call 15 (.nm 0 (.ex (.sx (.cst (.int 4))) .nil))) .nil))))
def b20_1 : S := (.ifs (.op .eq (.cons (.call 15 (.nm 0 (.ex (.sx (.cst (.int 7))) .nil))) (.cons (.sx (.cst (.int 0))) .nil))) (.cons (.set (.nm 2) (.sx (.cst (.int 100)))) .nil) .nil)
def b20_2 : S := (.set (.nm 3) (.lst .nil))
def b20_3 : S := (.fors (.nm 4) (.rngM (.call 15 (.nm 0 (.ex (.new .add (.cons (.var 1) (.cons (.cst (.int 1)) .nil))) .nil)))) b20_L0)
def b20_4 : S := (.ret (.tk 3))
/-- _law_rules(tape, most); slots 0 tape, 1 most, 2 stands, 3 rules, 4 k -/
def b20 : B := (.cons b20_0 (.cons b20_1 (.cons b20_2 (.cons b20_3 (.cons b20_4 .nil)))))
def b21_L0 : B := (.cons (.ifs (.sx (.op .eq (.cons (.op .idx (.cons (.var 7) (.cons (.cst (.int 0)) .nil))) (.cons (.cst (.str "put")) .nil)))) (.cons (.expr (.mut .append 2 (.cons (.sx (.cst (.int 0))) .nil))) (.cons (.expr (.mut .append 2 (.cons (.sx (.op .len (.cons (.op .idx (.cons (.var 7) (.cons (.cst (.int 1)) .nil))) .nil))) .nil))) (.cons (.expr (.mut .extend 2 (.cons (.sx (.aop .lstOf (.cons (.op .idx (.cons (.var 7) (.cons (.cst (.int 1)) .nil))) .nil))) .nil))) .nil))) (.cons (.ifs (.sx (.op .eq (.cons (.op .idx (.cons (.var 7) (.cons (.cst (.int 0)) .nil))) (.cons (.cst (.str "plus")) .nil)))) (.cons (.expr (.mut .append 2 (.cons (.sx (.cst (.int 1))) .nil))) (.cons (.expr (.mut .append 2 (.cons (.sx (.op .idx (.cons (.var 7) (.cons (.cst (.int 1)) .nil)))) .nil))) .nil)) (.cons (.expr (.mut .extend 2 (.cons (.lst (.cons (.sx (.cst (.int 2))) (.cons (.sx (.op .idx (.cons (.var 7) (.cons (.cst (.int 1)) .nil)))) (.cons (.sx (.op .idx (.cons (.var 7) (.cons (.cst (.int 2)) .nil)))) .nil)))) .nil))) .nil)) .nil)) .nil)
def b21_L1 : B := (.cons (.expr (.mut .append 2 (.cons (.sx (.var 3)) .nil))) (.cons (.ifs (.sx (.op .eq (.cons (.var 4) (.cons (.cst (.str "other")) .nil)))) (.cons (.expr (.mut .append 2 (.cons (.sx (.cst (.int 1))) .nil))) .nil) (.cons (.ifs (.sx (.op .eq (.cons (.var 4) (.cons (.cst (.str "end")) .nil)))) (.cons (.expr (.mut .append 2 (.cons (.sx (.cst (.int 2))) .nil))) .nil) (.cons (.expr (.mut .append 2 (.cons (.sx (.cst (.int 0))) .nil))) (.cons (.expr (.mut .append 2 (.cons (.sx (.var 4)) .nil))) .nil))) .nil)) (.cons (.expr (.mut .append 2 (.cons (.sx (.op .len (.cons (.var 5) .nil))) .nil))) (.cons (.fors (.nm 7) (.sx (.var 5)) b21_L0) (.cons (.ifs (.sx (.op .notN (.cons (.var 6) .nil))) (.cons (.expr (.mut .append 2 (.cons (.sx (.var 6)) .nil))) .nil) .nil) .nil)))))
def b21_0 : S := (.set (.nm 2) (.lst (.cons (.sx (.var 0)) .nil)))
def b21_1 : S := (.fors (.tup [3, 4, 5, 6]) (.sx (.var 1)) b21_L1)
def b21_2 : S := (.ret (.tk 2))
/-- _law_spell(start, rules); slots 0 start, 1 rules, 2 row, 3 stand, 4 word, 5 items, 6 follows, 7 item -/
def b21 : B := (.cons b21_0 (.cons b21_1 (.cons b21_2 .nil)))
def b22_0 : S := (.set (.nm 1) (.call 15 (.nm 0 (.ex (.sx (.cst (.int 3))) .nil))))
def b22_1 : S := (.ifs (.sx (.op .eq (.cons (.var 1) (.cons (.cst (.int 0)) .nil)))) (.cons (.ret (.sx (.tup .nil))) .nil) .nil)
def b22_2 : S := (.ifs (.sx (.op .eq (.cons (.var 1) (.cons (.cst (.int 1)) .nil)))) (.cons (.ret (.aop .add (.cons (.tup (.cons (.call 16 (.nm 0 .nil)) (.cons (.aop .add (.cons (.sx (.cst (.int 3))) (.cons (.call 15 (.nm 0 (.ex (.sx (.cst (.int 97))) .nil))) .nil))) .nil))) (.cons (.aop .tupOf (.cons (.call 17 (.nm 0 (.ex (.fz (.call 15 (.nm 0 (.ex (.sx (.cst (.int 4))) .nil)))) .nil))) .nil)) .nil)))) .nil) .nil)
def b22_3 : S := (.set (.nm 2) (.aop .tupOf (.cons (.aop (.cut true false) (.cons (.call 21 (.ex (.sx (.cst (.int 0))) (.ex (.fz (.lst (.cons (.call 19 (.nm 0 (.ex (.sx (.cst (.int 5))) .nil))) .nil))) .nil))) (.cons (.sx (.cst (.int 1))) .nil))) .nil)))
def b22_4 : S := (.ret (.aop (.cut false true) (.cons (.sx (.var 2)) (.cons (.call 15 (.nm 0 (.ex (.sx (.op .len (.cons (.var 2) .nil))) .nil))) .nil))))
/-- _law_tail(tape); slots 0 tape, 1 kind, 2 whole -/
def b22 : B := (.cons b22_0 (.cons b22_1 (.cons b22_2 (.cons b22_3 (.cons b22_4 .nil)))))
def b23_0 : S := (.set (.nm 2) (.call 15 (.nm 0 (.ex (.sx (.cst (.int 3))) .nil))))
def b23_1 : S := (.set (.nm 3) (.call 15 (.nm 0 (.ex (.new .add (.cons (.op .len (.cons (.var 1) .nil)) (.cons (.cst (.int 1)) .nil))) .nil))))
def b23_2 : S := (.ifs (.sx (.op .eq (.cons (.var 2) (.cons (.cst (.int 0)) .nil)))) (.cons (.ret (.aop .add (.cons (.aop .add (.cons (.sx (.aop (.cut false true) (.cons (.var 1) (.cons (.var 3) .nil)))) (.cons (.lst (.cons (.call 19 (.nm 0 (.ex (.sx (.cst (.int 4))) .nil))) .nil)) .nil))) (.cons (.sx (.aop (.cut true false) (.cons (.var 1) (.cons (.var 3) .nil)))) .nil)))) .nil) .nil)
def b23_3 : S := (.ifs (.sx (.or (.op .eq (.cons (.var 2) (.cons (.cst (.int 1)) .nil))) (.op .ge (.cons (.aop .add (.cons (.var 3) (.cons (.cst (.int 1)) .nil))) (.cons (.op .len (.cons (.var 1) .nil)) .nil))))) (.cons (.ret (.new .add (.cons (.aop (.cut false true) (.cons (.var 1) (.cons (.var 3) .nil))) (.cons (.aop (.cut true false) (.cons (.var 1) (.cons (.aop .add (.cons (.var 3) (.cons (.cst (.int 1)) .nil))) .nil))) .nil)))) .nil) .nil)
def b23_4 : S := (.ret (.aop .add (.cons (.aop .add (.cons (.sx (.aop (.cut false true) (.cons (.var 1) (.cons (.var 3) .nil)))) (.cons (.lst (.cons (.sx (.op .idx (.cons (.var 1) (.cons (.aop .add (.cons (.var 3) (.cons (.cst (.int 1)) .nil))) .nil)))) (.cons (.sx (.op .idx (.cons (.var 1) (.cons (.var 3) .nil)))) .nil))) .nil))) (.cons (.sx (.aop (.cut true false) (.cons (.var 1) (.cons (.aop .add (.cons (.var 3) (.cons (.cst (.int 2)) .nil))) .nil)))) .nil))))
/-- _law_turned(tape, rules); slots 0 tape, 1 rules, 2 kind, 3 at -/
def b23 : B := (.cons b23_0 (.cons b23_1 (.cons b23_2 (.cons b23_3 (.cons b23_4 .nil)))))
def b24_0 : S := (.set (.nm 3) (.call 13 (.nm 0 (.nm 1 .nil))))
def b24_1 : S := (.set (.nm 4) (.fz (.make "Rules" 26 (.ex (.new .add (.cons (.var 3) (.cons (.var 2) .nil))) .nil))))
def b24_2 : S := (.ifs (.sx (.or (.op .ne (.cons (.fld ["Rules"] (.var 4) "start") (.cons (.var 0) .nil))) (.or (.op .ne (.cons (.fld ["Rules"] (.var 4) "rules") (.cons (.aop .tupOf (.cons (.var 1) .nil)) .nil))) (.or (.op .ne (.cons (.fld ["Rules"] (.var 4) "tail") (.cons (.var 2) .nil))) (.op .ne (.cons (.fld ["Rules"] (.var 4) "body") (.cons (.aop .add (.cons (.var 3) (.cons (.var 2) .nil))) .nil))))))) (.cons (.ret (.sx (.cst (.bl false)))) .nil) .nil)
def b24_3 : S := (.ret (.op .eq (.cons (.call 13 (.ex (.sx (.fld ["Rules"] (.var 4) "start")) (.ex (.sx (.fld ["Rules"] (.var 4) "rules")) .nil))) (.cons (.sx (.var 3)) .nil))))
/-- _law_read_well(start, rules, tail); slots 0 start, 1 rules, 2 tail, 3 body, 4 told -/
def b24 : B := (.cons b24_0 (.cons b24_1 (.cons b24_2 (.cons b24_3 .nil))))
def b25_0 : S := (.set (.nm 1) (.call 14 (.nm 0 .nil)))
def b25_1 : S := (.set (.nm 2) (.call 15 (.nm 1 (.ex (.sx (.cst (.int 2))) .nil))))
def b25_2 : S := (.set (.nm 3) (.call 16 (.nm 1 .nil)))
def b25_3 : S := (.set (.nm 4) (.fz (.call 20 (.nm 1 (.ex (.sx (.cst (.int 8))) .nil)))))
def b25_4 : S := (.set (.nm 5) (.call 16 (.nm 1 .nil)))
def b25_5 : S := (.set (.nm 6) (.fz (.call 20 (.nm 1 (.ex (.sx (.cst (.int 8))) .nil)))))
def b25_6 : S := (.ifs (.sx (.op .eq (.cons (.var 2) (.cons (.cst (.int 0)) .nil)))) (.cons (.set (.nm 6) (.fz (.call 23 (.nm 1 (.nm 4 .nil))))) (.cons (.set (.nm 5) (.sx (.var 3))) .nil)) .nil)
def b25_7 : S := (.set (.nm 7) (.call 22 (.nm 1 .nil)))
def b25_8 : S := (.ifs (.or (.not (.call 24 (.nm 3 (.nm 4 (.nm 7 .nil))))) (.not (.call 24 (.nm 5 (.nm 6 (.ex (.sx (.tup .nil)) .nil)))))) (.cons (.ret (.sx (.cst (.bl false)))) .nil) .nil)
def b25_9 : S := (.set (.nm 8) (.call 13 (.nm 3 (.nm 4 .nil))))
def b25_10 : S := (.set (.nm 9) (.call 13 (.nm 5 (.nm 6 .nil))))
def b25_11 : S := (.set (.nm 10) (.sx (.op .eq (.cons (.var 8) (.cons (.var 9) .nil)))))
def b25_12 : S := (.ifs (.sx (.op .ne (.cons (.var 10) (.cons (.and (.op .eq (.cons (.var 3) (.cons (.var 5) .nil))) (.op .eq (.cons (.op .repr (.cons (.var 4) .nil)) (.cons (.op .repr (.cons (.var 6) .nil)) .nil)))) .nil)))) (.cons (.ret (.sx (.cst (.bl false)))) .nil) .nil)
def b25_13 : S := (.ifs (.or (.op .ne (.cons (.cmpI "Rules" 27 (.fz (.make "Rules" 26 (.nm 8 .nil))) (.fz (.make "Rules" 26 (.nm 9 .nil)))) (.cons (.sx (.var 10)) .nil))) (.op .ne (.cons (.cmpI "Rules" 27 (.fz (.make "Rules" 26 (.nm 9 .nil))) (.fz (.make "Rules" 26 (.nm 8 .nil)))) (.cons (.sx (.var 10)) .nil)))) (.cons (.ret (.sx (.cst (.bl false)))) .nil) .nil)
def b25_14 : S := (.ifs (.or (.cmpX 0 "Rules" 27 (.fz (.make "Rules" 26 (.nm 8 .nil))) (.fz (.make "Rules" 26 (.ex (.fz (.new .lstOf (.cons (.var 8) .nil))) .nil)))) (.or (.cmpX 1 "Rules" 27 (.fz (.make "Rules" 26 (.nm 8 .nil))) (.sx (.var 8))) (.cmpX 2 "Rules" 27 (.sx (.var 8)) (.fz (.make "Rules" 26 (.nm 8 .nil)))))) (.cons (.ret (.sx (.cst (.bl false)))) .nil) .nil)
def b25_15 : S := (.ifs (.op .ne (.cons (.cmpI "Rules" 27 (.fz (.make "Rules" 26 (.ex (.new .add (.cons (.var 8) (.cons (.var 7) .nil))) .nil))) (.fz (.make "Rules" 26 (.nm 8 .nil)))) (.cons (.sx (.op .eq (.cons (.var 7) (.cons (.tup .nil) .nil)))) .nil))) (.cons (.ret (.sx (.cst (.bl false)))) .nil) .nil)
def b25_16 : S := (.ret (.not (.cmpX 1 "Rules" 27 (.fz (.make "Rules" 26 (.nm 8 .nil))) (.sx (.var 3)))))
/-- law(script); slots 0 script, 1 tape, 2 like, 3 start, 4 rules, 5 other, 6 others, 7 tail, 8 first, 9 second, 10 same -/
def b25 : B := (.cons b25_0 (.cons b25_1 (.cons b25_2 (.cons b25_3 (.cons b25_4 (.cons b25_5 (.cons b25_6 (.cons b25_7 (.cons b25_8 (.cons b25_9 (.cons b25_10 (.cons b25_11 (.cons b25_12 (.cons b25_13 (.cons b25_14 (.cons b25_15 (.cons b25_16 .nil)))))))))))))))))
def b26_L0 : B := (.cons (.set (.nm 4) (.call 8 (.ex (.sx (.fld ["Rules"] (.var 0) "body")) (.nm 3 .nil)))) (.cons (.ifs (.sx (.op .isN (.cons (.var 4) .nil))) (.cons .brk .nil) .nil) (.cons (.expr (.mut .append 2 (.cons (.sx (.op .idx (.cons (.var 4) (.cons (.cst (.int 0)) .nil)))) .nil))) (.cons (.set (.nm 3) (.sx (.op .idx (.cons (.var 4) (.cons (.cst (.int 1)) .nil))))) .nil))))
def b26_0 : S := (.fset ["Rules"] 0 "body" (.call 3 (.nm 1 .nil)))
def b26_1 : S := (.fset ["Rules"] 0 "start" (.sx (.cst (.int 0))))
def b26_2 : S := (.set (.nm 2) (.lst .nil))
def b26_3 : S := (.set (.nm 3) (.sx (.cst (.int 0))))
def b26_4 : S := (.ifs (.sx (.op .gt (.cons (.op .len (.cons (.fld ["Rules"] (.var 0) "body") .nil)) (.cons (.cst (.int 0)) .nil)))) (.cons (.fset ["Rules"] 0 "start" (.sx (.op .idx (.cons (.fld ["Rules"] (.var 0) "body") (.cons (.cst (.int 0)) .nil))))) (.cons (.set (.nm 3) (.sx (.cst (.int 1)))) .nil)) .nil)
def b26_5 : S := (.whl (.sx (.op .lt (.cons (.var 3) (.cons (.op .len (.cons (.fld ["Rules"] (.var 0) "body") .nil)) .nil)))) b26_L0)
def b26_6 : S := (.fset ["Rules"] 0 "rules" (.new .tupOf (.cons (.var 2) .nil)))
def b26_7 : S := (.fset ["Rules"] 0 "tail" (.new (.cut true false) (.cons (.fld ["Rules"] (.var 0) "body") (.cons (.var 3) .nil))))
/-- Rules.__init__(self, body); slots 0 self, 1 body, 2 found, 3 place, 4 rule -/
def b26 : B := (.cons b26_0 (.cons b26_1 (.cons b26_2 (.cons b26_3 (.cons b26_4 (.cons b26_5 (.cons b26_6 (.cons b26_7 .nil))))))))
def b27_0 : S := (.ret (.sx (.and (.op (.isC ["Rules"] "Rules") (.cons (.var 1) .nil)) (.op .eq (.cons (.fld ["Rules"] (.var 0) "body") (.cons (.fld ["Rules"] (.var 1) "body") .nil))))))
/-- Rules.__eq__(self, other); slots 0 self, 1 other -/
def b27 : B := (.cons b27_0 .nil)
def P : Nat → Option Fn
  | 0 => some ⟨1, 1, b0⟩
  | 1 => some ⟨1, 1, b1⟩
  | 2 => some ⟨1, 2, b2⟩
  | 3 => some ⟨1, 1, b3⟩
  | 4 => some ⟨1, 1, b4⟩
  | 5 => some ⟨2, 3, b5⟩
  | 6 => some ⟨2, 6, b6⟩
  | 7 => some ⟨2, 2, b7⟩
  | 8 => some ⟨2, 4, b8⟩
  | 9 => some ⟨1, 1, b9⟩
  | 10 => some ⟨1, 2, b10⟩
  | 11 => some ⟨1, 1, b11⟩
  | 12 => some ⟨1, 3, b12⟩
  | 13 => some ⟨2, 5, b13⟩
  | 14 => some ⟨1, 1, b14⟩
  | 15 => some ⟨2, 5, b15⟩
  | 16 => some ⟨1, 2, b16⟩
  | 17 => some ⟨2, 4, b17⟩
  | 18 => some ⟨1, 3, b18⟩
  | 19 => some ⟨2, 7, b19⟩
  | 20 => some ⟨2, 5, b20⟩
  | 21 => some ⟨2, 8, b21⟩
  | 22 => some ⟨1, 3, b22⟩
  | 23 => some ⟨2, 4, b23⟩
  | 24 => some ⟨3, 5, b24⟩
  | 25 => some ⟨1, 11, b25⟩
  | 26 => some ⟨2, 5, b26⟩
  | 27 => some ⟨2, 2, b27⟩
  | _ => none
abbrev WN : Nat := 100000
end K07

namespace VM
open PySem L2
@[simp] theorem fz_non : D.non.fz = true := rfl
@[simp] theorem fz_bl {b} : (D.bl b).fz = true := rfl
@[simp] theorem fz_int {b} : (D.int b).fz = true := rfl
@[simp] theorem fz_str {b} : (D.str b).fz = true := rfl
@[simp] theorem fz_tup {b} : (D.tup b).fz = true := rfl
@[simp] theorem fz_scr {b} : (D.scr b).fz = true := rfl
@[simp] theorem fz_lst {o b} : (D.lst o b).fz = !o := rfl
@[simp] theorem it_tup {b} : (D.tup b).items = some b := rfl
@[simp] theorem it_scr {b} : (D.scr b).items = some b := rfl
@[simp] theorem it_lst {o b} : (D.lst o b).items = some b := rfl
@[simp] theorem it_int {b} : (D.int b).items = none := rfl
@[simp] theorem it_bl {b} : (D.bl b).items = none := rfl
@[simp] theorem it_non : D.non.items = none := rfl
@[simp] theorem it_str {b} : (D.str b).items = none := rfl
@[simp] theorem tf_non : D.non.topfz = .non := rfl
@[simp] theorem tf_bl {b} : (D.bl b).topfz = .bl b := rfl
@[simp] theorem tf_int {b} : (D.int b).topfz = .int b := rfl
@[simp] theorem tf_str {b} : (D.str b).topfz = .str b := rfl
@[simp] theorem tf_tup {b} : (D.tup b).topfz = .tup b := rfl
@[simp] theorem tf_scr {b} : (D.scr b).topfz = .scr b := rfl
@[simp] theorem tf_lst {o b} : (D.lst o b).topfz = .lst false b := rfl
@[simp] theorem fzL_nil : fzL [] = true := rfl
@[simp] theorem fzL_cons {d ds} : fzL (d :: ds) = (d.fz && fzL ds) := rfl
@[simp] theorem fzL_append {ds es} : fzL (ds ++ es) = (fzL ds && fzL es) := List.all_append
@[simp] theorem fzL_ints {ns : List Int} : fzL (ns.map D.int) = true := by
  induction ns with
  | nil => rfl
  | cons n ns ih => rw [List.map_cons, fzL_cons, ih] <;> rfl
@[simp] theorem frzL_ints {ns : List Int} : frzL (ns.map D.int) = ns.map D.int := by
  induction ns with
  | nil => rfl
  | cons n ns ih =>
    show D.int n :: frzL (ns.map D.int) = _
    rw [ih] <;> rfl
@[simp] theorem frz_lst {o xs} : (D.lst o xs).frz = .lst false (frzL xs) := rfl
@[simp] theorem frz_int {i} : (D.int i).frz = .int i := rfl
@[simp] theorem frz_tup {i} : (D.tup i).frz = .tup i := rfl
@[simp] theorem frz_bl {i} : (D.bl i).frz = .bl i := rfl
@[simp] theorem frz_str {i} : (D.str i).frz = .str i := rfl
@[simp] theorem frz_non : D.non.frz = .non := rfl
@[simp] theorem frz_scr {i} : (D.scr i).frz = .scr i := rfl
@[simp] theorem kd_int {i} : (D.int i).kd = .int := rfl
@[simp] theorem kd_bl {i} : (D.bl i).kd = .bl := rfl
@[simp] theorem kd_non : D.non.kd = .non := rfl
@[simp] theorem kd_str {i} : (D.str i).kd = .str := rfl
@[simp] theorem kd_tup {i} : (D.tup i).kd = .tup := rfl
@[simp] theorem kd_scr {i} : (D.scr i).kd = .lst := rfl
@[simp] theorem kd_lst {o i} : (D.lst o i).kd = .lst := rfl
@[simp] theorem bop_sub {a b} : bop .sub [.int a, .int b] = some (.int (a - b)) := rfl
@[simp] theorem bop_mod {a b} : bop .mod [.int a, .int b] = if 0 < b then some (.int (a % b)) else none := rfl
@[simp] theorem bop_fdiv {a b} : bop .fdiv [.int a, .int b] = if 0 < b ∧ b < 1073741824 then some (.int (a / b)) else none := rfl
@[simp] theorem bop_neg {a} : bop .neg [.int a] = some (.int (-a)) := rfl
@[simp] theorem bop_pow {a b} : bop .pow [.int a, .int b] = if 0 ≤ b ∧ b ≤ 1000000 ∧ a.natAbs < 2 ^ 64 then some (.int (a ^ b.toNat)) else none := rfl
@[simp] theorem bop_lt {a b} : bop .lt [.int a, .int b] = some (.bl (decide (a < b))) := rfl
@[simp] theorem bop_le {a b} : bop .le [.int a, .int b] = some (.bl (decide (a ≤ b))) := rfl
@[simp] theorem bop_gt {a b} : bop .gt [.int a, .int b] = some (.bl (decide (b < a))) := rfl
@[simp] theorem bop_ge {a b} : bop .ge [.int a, .int b] = some (.bl (decide (b ≤ a))) := rfl
@[simp] theorem bop_eq {a b} : bop .eq [a, b] = (deq a b).map .bl := rfl
@[simp] theorem bop_ne {a b} : bop .ne [a, b] = (deq a b).map fun c => .bl (!c) := rfl
@[simp] theorem bop_isN {a} : bop .isN [a] = some (.bl a.isNon) := rfl
@[simp] theorem bop_notN {a} : bop .notN [a] = some (.bl (!a.isNon)) := rfl
@[simp] theorem bop_len_tup {xs} : bop .len [.tup xs] = some (.int xs.length) := rfl
@[simp] theorem bop_len_lst {o xs} : bop .len [.lst o xs] = some (.int xs.length) := rfl
@[simp] theorem bop_len_scr {xs} : bop .len [.scr xs] = some (.int xs.length) := rfl
@[simp] theorem bop_len_str {x} : bop .len [.str x] = if x.length ≤ sizeLine then some (.int x.length) else none := rfl
@[simp] theorem bop_idx_tup {xs i} : bop .idx [.tup xs, .int i] = atI xs i := rfl
@[simp] theorem bop_idx_lst {o xs i} : bop .idx [.lst o xs, .int i] = atI xs i := rfl
@[simp] theorem bop_idx_scr {xs i} : bop .idx [.scr xs, .int i] = atI xs i := rfl
@[simp] theorem bop_isi {ts a} : bop (.isi ts) [a] = some (.bl (ts.any a.kd.isTy)) := rfl
@[simp] theorem bop_toInt {a} : bop .toInt [.int a] = some (.int a) := rfl
@[simp] theorem bop_toIntB {a} : bop .toInt [.bl a] = some (.int (if a then 1 else 0)) := rfl
@[simp] theorem bop_allB {o bs} : bop .allB [.lst o bs] = (boolsOf bs).map fun bs => .bl (bs.all id) := rfl
@[simp] theorem aop_tt {xs} : aop .tupOf [.tup xs] = some (.tup xs) := rfl
@[simp] theorem aop_tl {o xs} : aop .tupOf [.lst o xs] = if fzL xs = true then some (.tup xs) else none := rfl
@[simp] theorem aop_ts {xs} : aop .tupOf [.scr xs] = some (.tup xs) := rfl
@[simp] theorem aop_lt {xs} : aop .lstOf [.tup xs] = some (.lst true xs) := rfl
@[simp] theorem aop_ll {o xs} : aop .lstOf [.lst o xs] = if fzL xs = true then some (.lst true xs) else none := rfl
@[simp] theorem aop_ls {xs} : aop .lstOf [.scr xs] = some (.lst true xs) := rfl
@[simp] theorem aop_c00 {x} : aop (.cut false false) [x] = cutBy x none none := rfl
@[simp] theorem aop_c10 {x i} : aop (.cut true false) [x, .int i] = cutBy x (some i) none := rfl
@[simp] theorem aop_c01 {x i} : aop (.cut false true) [x, .int i] = cutBy x none (some i) := rfl
@[simp] theorem aop_c11 {x i j} : aop (.cut true true) [x, .int i, .int j] = cutBy x (some i) (some j) := rfl
@[simp] theorem cutBy_tup {xs lo hi} : cutBy (.tup xs) lo hi = some (.tup (cutD xs lo hi)) := rfl
@[simp] theorem cutBy_scr {xs lo hi} : cutBy (.scr xs) lo hi = some (.lst true (cutD xs lo hi)) := rfl
@[simp] theorem cutBy_lst {o xs lo hi} : cutBy (.lst o xs) lo hi = if fzL xs = true then some (.lst true (cutD xs lo hi)) else none := rfl
@[simp] theorem aop_addI {a b} : aop .add [.int a, .int b] = some (.int (a + b)) := rfl
@[simp] theorem aop_addT {a b} : aop .add [.tup a, .tup b] = if a.length + b.length ≤ sizeLine then some (.tup (a ++ b)) else none := rfl
@[simp] theorem aop_addL {o u a b} : aop .add [.lst o a, .lst u b] = if fzL a = true ∧ fzL b = true ∧ a.length + b.length ≤ sizeLine then some (.lst true (a ++ b)) else none := rfl
@[simp] theorem aop_mulI {a b} : aop .mul [.int a, .int b] = if CMulB a b = true then some (.int (a * b)) else none := rfl
@[simp] theorem aop_mulL {o a k} : aop .mul [.lst o a, .int k] = if fzL a = true ∧ -(2 ^ 63) ≤ k ∧ k < 2 ^ 63 ∧ a.length * k.toNat ≤ sizeLine then some (.lst true (List.replicate k.toNat a).flatten) else none := rfl
@[simp] theorem isNon_non : D.non.isNon = true := rfl
@[simp] theorem isNon_int {i} : (D.int i).isNon = false := rfl
@[simp] theorem isNon_tup {i} : (D.tup i).isNon = false := rfl
@[simp] theorem isNon_lst {o i} : (D.lst o i).isNon = false := rfl
@[simp] theorem isNon_str {i} : (D.str i).isNon = false := rfl
@[simp] theorem isNon_bl {i} : (D.bl i).isNon = false := rfl
@[simp] theorem kd_err {n e} : (D.err n e).kd = .ins := rfl
@[simp] theorem fz_err {n e} : (D.err n e).fz = true := rfl
@[simp] theorem frz_err {n e} : (D.err n e).frz = .err n e := rfl
@[simp] theorem it_err {n e} : (D.err n e).items = none := rfl
@[simp] theorem tf_err {n e} : (D.err n e).topfz = .err n e := rfl
@[simp] theorem isNon_err {n e} : (D.err n e).isNon = false := rfl
@[simp] theorem sz5 : 5 ≤ sizeLine := by rw [sizeLine_eq]; decide
theorem deq_int {a b : Int} : deq (.int a) (.int b) = some (decide (a = b)) := by
  unfold deq
  rw [show D.py (.int a) = some (.int a) from rfl, show D.py (.int b) = some (.int b) from rfl]
  show peq (.int a) (.int b) = _
  unfold peq
  rw [if_pos ⟨rfl, rfl, Nat.zero_le _⟩]
  by_cases h : a = b
  · subst h
    simp [PyData.eqv]
  · simp [PyData.eqv, h]
def bPick : B := (.cons (.ifs (.sx (.op .gt (.cons (.op .idx (.cons (.var 0) (.cons (.cst (.int 2)) .nil))) (.cons (.cst (.int 1)) .nil)))) (.cons (.set (.nm 4) (.sx (.op .mod (.cons (.op .toInt (.cons (.op .idx (.cons (.var 0) (.cons (.cst (.int 2)) .nil))) .nil)) (.cons (.var 1) .nil))))) (.cons (.put 0 (.cst (.int 2)) (.sx (.op .fdiv (.cons (.op .idx (.cons (.var 0) (.cons (.cst (.int 2)) .nil))) (.cons (.var 1) .nil))))) (.cons (.ret (.sx (.var 4))) .nil))) .nil) (.cons (.put 0 (.cst (.int 4)) (.sx (.aop .add (.cons (.op .idx (.cons (.var 0) (.cons (.cst (.int 4)) .nil))) (.cons (.cst (.int 1)) .nil))))) (.cons (.set (.nm 2) (.sx (.cst (.int 0)))) (.cons (.ifs (.sx (.op .lt (.cons (.op .idx (.cons (.var 0) (.cons (.cst (.int 1)) .nil))) (.cons (.op .len (.cons (.op .idx (.cons (.var 0) (.cons (.cst (.int 0)) .nil))) .nil)) .nil)))) (.cons (.set (.nm 2) (.sx (.op .idx (.cons (.op .idx (.cons (.var 0) (.cons (.cst (.int 0)) .nil))) (.cons (.op .idx (.cons (.var 0) (.cons (.cst (.int 1)) .nil))) .nil))))) (.cons (.put 0 (.cst (.int 1)) (.sx (.aop .add (.cons (.op .idx (.cons (.var 0) (.cons (.cst (.int 1)) .nil))) (.cons (.cst (.int 1)) .nil))))) .nil)) .nil) (.cons (.ifs (.sx (.op .ge (.cons (.var 2) (.cons (.op .pow (.cons (.cst (.int 10)) (.cons (.cst (.int 18)) .nil))) .nil)))) (.cons (.put 0 (.cst (.int 2)) (.sx (.op .fdiv (.cons (.var 2) (.cons (.var 1) .nil))))) (.cons (.ret (.sx (.op .mod (.cons (.op .toInt (.cons (.var 2) .nil)) (.cons (.var 1) .nil))))) .nil)) .nil) (.cons (.set (.nm 3) (.sx (.op .mod (.cons (.op .toInt (.cons (.aop .add (.cons (.aop .add (.cons (.aop .mul (.cons (.op .idx (.cons (.var 0) (.cons (.cst (.int 3)) .nil))) (.cons (.cst (.int 48271)) .nil))) (.cons (.op .mod (.cons (.op .toInt (.cons (.var 2) .nil)) (.cons (.cst (.int 2147483629)) .nil))) .nil))) (.cons (.aop .mul (.cons (.op .idx (.cons (.var 0) (.cons (.cst (.int 4)) .nil))) (.cons (.cst (.int 69621)) .nil))) .nil))) .nil)) (.cons (.cst (.int 2147483647)) .nil))))) (.cons (.set (.nm 3) (.sx (.op .mod (.cons (.op .toInt (.cons (.aop .mul (.cons (.var 3) (.cons (.aop .add (.cons (.op .fdiv (.cons (.var 3) (.cons (.cst (.int 1009)) .nil))) (.cons (.cst (.int 40692)) .nil))) .nil))) .nil)) (.cons (.cst (.int 2147483399)) .nil))))) (.cons (.put 0 (.cst (.int 3)) (.sx (.var 3))) (.cons (.ret (.sx (.op .mod (.cons (.op .toInt (.cons (.op .fdiv (.cons (.var 3) (.cons (.cst (.int 16)) .nil))) .nil)) (.cons (.var 1) .nil))))) .nil)))))))))
def fnPick : Fn := ⟨2, 5, bPick⟩
def tape (cs : List Int) (p : Nat) (a s c : Int) : D := .lst true [.lst false (cs.map D.int), .int p, .int a, .int s, .int c]
def Tape (T : D) : Prop := ∃ cs p a s c, T = tape cs p a s c
theorem atI_nat {α : Type} (xs : List α) (i : Nat) : atI xs (i : Int) = xs[i]? := by
  unfold atI ixN
  by_cases h : i < xs.length
  · rw [if_pos (by omega), if_pos (by omega)]
    rfl
  · rw [if_pos (by omega), if_neg (by omega), List.getElem?_eq_none (by omega)]
    rfl
theorem cmul_r {i j : Int} (h : -(2 ^ 64) < j ∧ j < 2 ^ 64) : CMulB i j = true := by
  unfold CMulB
  rw [decide_eq_true h, Bool.or_true]
theorem cmul_l {i j : Int} (h : -(2 ^ 64) < i ∧ i < 2 ^ 64) : CMulB i j = true := by
  unfold CMulB
  rw [decide_eq_true h, Bool.true_or]

theorem pick1 {call : Nat → List D → Rr} {W : Nat} {cs : List Int} {p : Nat} {a s c z : Int} (hz : 0 < z) (hz2 : z < 1073741824) (ha : 1 < a) : runFn call W fnPick [tape cs p a s c, .int z] = .ret (.int (a % z)) [tape cs p (a / z) s c, .int z] := by
  simp [fnPick, bPick, tape, runFn, exs, ex, ev, evs, evA, back, sv, svs, atI, ixN, Tg.bind, ixP, fins, B.asg, S.asg, Tg.asg, deq_int, ha, hz, hz2]
def mix1 (s c cell : Int) : Int := (s * 48271 + cell % 2147483629 + (c + 1) * 69621) % 2147483647
def mix2 (m : Int) : Int := (m * (m / 1009 + 40692)) % 2147483399
theorem mix1_ok {s c cell : Int} : CMulB (mix1 s c cell) (mix1 s c cell / 1009 + 40692) = true := by
  refine cmul_l ?_
  unfold mix1
  have h1 := Int.emod_nonneg (s * 48271 + cell % 2147483629 + (c + 1) * 69621) (by decide : (2147483647 : Int) ≠ 0)
  have h2 := Int.emod_lt_of_pos (s * 48271 + cell % 2147483629 + (c + 1) * 69621) (by decide : (0 : Int) < 2147483647)
  omega
theorem pick2 {call : Nat → List D → Rr} {W : Nat} {cs : List Int} {p : Nat} {a s c z : Int} (hz : 0 < z) (hz2 : z < 1073741824) (ha : ¬ 1 < a) (hp : p < cs.length) (hc : 1000000000000000000 ≤ cs[p]) :
    runFn call W fnPick [tape cs p a s c, .int z] = .ret (.int (cs[p] % z)) [tape cs (p + 1) (cs[p] / z) s (c + 1), .int z] := by
  simp [fnPick, bPick, tape, runFn, exs, ex, ev, evs, evA, back, sv, svs, atI, ixN, Tg.bind, ixP, fins, B.asg, S.asg, Tg.asg, deq_int, ha, hz, hz2, hp, hc, CMulB]
theorem pick3 {call : Nat → List D → Rr} {W : Nat} {cs : List Int} {p : Nat} {a s c z : Int} (hz : 0 < z) (hz2 : z < 1073741824) (ha : ¬ 1 < a) (hp : p < cs.length) (hc : ¬ 1000000000000000000 ≤ cs[p]) :
    runFn call W fnPick [tape cs p a s c, .int z] = .ret (.int (mix2 (mix1 s c cs[p]) / 16 % z)) [tape cs (p + 1) a (mix2 (mix1 s c cs[p])) (c + 1), .int z] := by
  have e1 : CMulB s 48271 = true := cmul_r (by decide)
  have e2 : CMulB (c + 1) 69621 = true := cmul_r (by decide)
  have e3 : CMulB ((s * 48271 + cs[p] % 2147483629 + (c + 1) * 69621) % 2147483647) ((s * 48271 + cs[p] % 2147483629 + (c + 1) * 69621) % 2147483647 / 1009 + 40692) = true := mix1_ok
  simp [fnPick, bPick, tape, runFn, exs, ex, ev, evs, evA, back, sv, svs, atI, ixN, Tg.bind, ixP, fins, B.asg, S.asg, Tg.asg, deq_int, ha, hz, hz2, hp, hc, e1, e2, e3, mix1, mix2]
theorem pick4 {call : Nat → List D → Rr} {W : Nat} {cs : List Int} {p : Nat} {a s c z : Int} (hz : 0 < z) (hz2 : z < 1073741824) (ha : ¬ 1 < a) (hp : ¬ p < cs.length) :
    runFn call W fnPick [tape cs p a s c, .int z] = .ret (.int (mix2 (mix1 s c 0) / 16 % z)) [tape cs p a (mix2 (mix1 s c 0)) (c + 1), .int z] := by
  have e1 : CMulB s 48271 = true := cmul_r (by decide)
  have e2 : CMulB (c + 1) 69621 = true := cmul_r (by decide)
  have e3 : CMulB ((s * 48271 + (c + 1) * 69621) % 2147483647) ((s * 48271 + (c + 1) * 69621) % 2147483647 / 1009 + 40692) = true := by
    have := mix1_ok (s := s) (c := c) (cell := 0)
    simpa [mix1] using this
  simp [fnPick, bPick, tape, runFn, exs, ex, ev, evs, evA, back, sv, svs, atI, ixN, Tg.bind, ixP, fins, B.asg, S.asg, Tg.asg, deq_int, ha, hz, hz2, hp, e1, e2, e3, mix1, mix2]
/-- what a pick gives -/
theorem pick {T : D} (hT : Tape T) {z : Int} (hz : 0 < z) (hz2 : z < 1073741824) : ∃ r T', 0 ≤ r ∧ r < z ∧ Tape T' ∧ ∀ call W, runFn call W fnPick [T, .int z] = .ret (.int r) [T', .int z] := by
  obtain ⟨cs, p, a, s, c, rfl⟩ := hT
  have r : ∀ x : Int, 0 ≤ x % z ∧ x % z < z := fun x => ⟨Int.emod_nonneg _ (by omega), Int.emod_lt_of_pos _ hz⟩
  by_cases ha : 1 < a
  · exact ⟨_, _, (r _).1, (r _).2, ⟨_, _, _, _, _, rfl⟩, fun _ _ => pick1 hz hz2 ha⟩
  · by_cases hp : p < cs.length
    · by_cases hc : 1000000000000000000 ≤ cs[p]
      · exact ⟨_, _, (r _).1, (r _).2, ⟨_, _, _, _, _, rfl⟩, fun _ _ => pick2 hz hz2 ha hp hc⟩
      · exact ⟨_, _, (r _).1, (r _).2, ⟨_, _, _, _, _, rfl⟩, fun _ _ => pick3 hz hz2 ha hp hc⟩
    · exact ⟨_, _, (r _).1, (r _).2, ⟨_, _, _, _, _, rfl⟩, fun _ _ => pick4 hz hz2 ha hp⟩
end VM

namespace VM
open PySem L2
/-! ### a pick, called -/
theorem callPick {P : Nat → Option Fn} {W pk : Nat} (hP : P pk = some fnPick) {T : D} (hT : Tape T) {z : Int} (hz : 0 < z) (hz2 : z < 1073741824) : ∃ r T', 0 ≤ r ∧ r < z ∧ Tape T' ∧ ∀ k, run P W (k + 1) pk [T, .int z] = .ret (.int r) [T', .int z] := by
  obtain ⟨r, T', h1, h2, h3, h4⟩ := pick hT hz hz2
  exact ⟨r, T', h1, h2, h3, fun k => by rw [run_succ hP]; exact h4 _ _⟩
theorem tape_own {T : D} (h : Tape T) : T.fz = false ∧ ∃ xs, T = .lst true xs := by
  obtain ⟨cs, p, a, s, c, rfl⟩ := h
  exact ⟨rfl, _, rfl⟩
def fnTape : Fn := ⟨1, 1, (.cons (.ret (.lst (.cons (.sx (.aop .lstOf (.cons (.var 0) .nil))) (.cons (.sx (.cst (.int 0))) (.cons (.sx (.cst (.int 0))) (.cons (.sx (.cst (.int 1))) (.cons (.sx (.cst (.int 0))) .nil))))))) .nil)⟩
theorem callTape {P : Nat → Option Fn} {W f : Nat} (hP : P f = some fnTape) (ns : List Int) : ∃ T, Tape T ∧ ∀ k, run P W (k + 1) f [.scr (ns.map D.int)] = .ret T [.scr (ns.map D.int)] := by
  refine ⟨tape ns 0 0 1 0, ⟨ns, 0, 0, 1, 0, rfl⟩, fun k => ?_⟩
  rw [run_succ hP]
  simp [fnTape, tape, runFn, exs, ex, ev, evs, evA, back, sv, svs, atI, ixN, Tg.bind, ixP, fins, B.asg, S.asg, Tg.asg, deq_int]
def fnSign (pk : Nat) : Fn := ⟨1, 2, (.cons (.set (.nm 1) (.call pk (.nm 0 (.ex (.sx (.cst (.int 4))) .nil)))) (.cons (.ifs (.sx (.op .eq (.cons (.var 1) (.cons (.cst (.int 0)) .nil)))) (.cons (.ret (.call pk (.nm 0 (.ex (.sx (.cst (.int 100))) .nil)))) .nil) .nil) (.cons (.ifs (.sx (.op .eq (.cons (.var 1) (.cons (.cst (.int 1)) .nil)))) (.cons (.ret (.op .sub (.cons (.sx (.cst (.int 99))) (.cons (.call pk (.nm 0 (.ex (.sx (.cst (.int 3))) .nil))) .nil)))) .nil) .nil) (.cons (.ret (.call pk (.nm 0 (.ex (.sx (.cst (.int 5))) .nil)))) .nil))))⟩
theorem callSign {P : Nat → Option Fn} {W pk f : Nat} (hP : P pk = some fnPick) (hF : P f = some (fnSign pk)) {T : D} (hT : Tape T) : ∃ r T', 0 ≤ r ∧ r < 100 ∧ Tape T' ∧ ∀ k, run P W (k + 2) f [T] = .ret (.int r) [T'] := by
  obtain ⟨r, T1, a1, a2, h1, e1⟩ := callPick (W := W) hP hT (z := 4) (by decide) (by decide)
  have f0 := (tape_own hT).1
  have f1 := (tape_own h1).1
  by_cases c0 : r = 0
  · obtain ⟨q, T2, b1, b2, h2, e2⟩ := callPick (W := W) hP h1 (z := 100) (by decide) (by decide)
    refine ⟨q, T2, b1, b2, h2, fun k => ?_⟩
    rw [run_succ hF]
    simp [fnSign, runFn, exs, ex, ev, evs, evA, back, sv, svs, atI, ixN, Tg.bind, ixP, fins, B.asg, S.asg, Tg.asg, deq_int, e1, e2, f0, f1, c0]
  · by_cases c1 : r = 1
    · obtain ⟨q, T2, b1, b2, h2, e2⟩ := callPick (W := W) hP h1 (z := 3) (by decide) (by decide)
      refine ⟨99 - q, T2, by omega, by omega, h2, fun k => ?_⟩
      rw [run_succ hF]
      simp [fnSign, runFn, exs, ex, ev, evs, evA, back, sv, svs, atI, ixN, Tg.bind, ixP, fins, B.asg, S.asg, Tg.asg, deq_int, e1, e2, f0, f1, c0, c1]
    · obtain ⟨q, T2, b1, b2, h2, e2⟩ := callPick (W := W) hP h1 (z := 5) (by decide) (by decide)
      refine ⟨q, T2, b1, by omega, h2, fun k => ?_⟩
      rw [run_succ hF]
      simp [fnSign, runFn, exs, ex, ev, evs, evA, back, sv, svs, atI, ixN, Tg.bind, ixP, fins, B.asg, S.asg, Tg.asg, deq_int, e1, e2, f0, f1, c0, c1]
end VM

namespace VM
open PySem L2
abbrev iL (ws : List Int) : List D := ws.map D.int
def Sg (x : Int) : Prop := 0 ≤ x ∧ x < 100
def Sgs (ws : List Int) : Prop := ∀ w ∈ ws, Sg w
def bdSigns (sg : Nat) : B := (.cons (.expr (.mut .append 2 (.cons (.call sg (.nm 0 .nil)) .nil))) .nil)
@[simp] theorem asg_bdSigns {sg} : (bdSigns sg).asg = [] := rfl
/-- _law_signs -/
def fnSigns (sg : Nat) : Fn := ⟨2, 4, (.cons (.set (.nm 2) (.lst .nil)) (.cons (.fors (.nm 3) (.rng1 (.var 1)) (bdSigns sg)) (.cons (.ret (.tk 2)) .nil)))⟩
theorem signs_go {call : Nat → List D → Rr} {W sg : Nat} {m : D} (hc : ∀ T, Tape T → ∃ r T', Sg r ∧ Tape T' ∧ call sg [T] = .ret (.int r) [T']) : ∀ (items : List D) (T : D) (ws : List Int) (x : Option D), Tape T → ws.length + items.length ≤ sizeLine → (items = [] ∨ True) →
    ∃ T' ws' x', forGo (.nm 3) (exs call W none (bdSigns sg)) items [some T, some m, some (.lst true (iL ws)), x] = .nx [some T', some m, some (.lst true (iL (ws ++ ws'))), x'] ∧ Tape T' ∧ ws'.length = items.length ∧ Sgs ws'
  | [], T, ws, x, hT, _, _ => ⟨T, [], x, by simp [forGo], hT, rfl, fun w h => by cases h⟩
  | d :: ds, T, ws, x, hT, hl, _ => by
    obtain ⟨r, T1, h1, h2, h3⟩ := hc T hT
    have hl' : ws.length + (ds.length + 1) ≤ sizeLine := hl
    obtain ⟨T2, ws2, x2, h4, h5, h6, h7⟩ := signs_go hc (W := W) (m := m) ds T1 (ws ++ [r]) (some d) h2 (by rw [List.length_append]; simp; omega) (.inr trivial)
    refine ⟨T2, r :: ws2, x2, ?_, h5, by simp [h6], fun w hw => ?_⟩
    · have f0 := (tape_own hT).1
      have e2 : ws.length < sizeLine := by omega
      rw [show ws ++ r :: ws2 = (ws ++ [r]) ++ ws2 by simp, ← h4]
      rw [forGo]
      simp [forGo, bdSigns, runFn, exs, ex, ev, evs, evA, back, sv, svs, atI, ixN, Tg.bind, ixP, fins, B.asg, S.asg, Tg.asg, deq_int, mutD, h3, f0, e2, iL]
    · rcases List.mem_cons.mp hw with rfl | hw
      · exact h1
      · exact h7 w hw
theorem callSigns {P : Nat → Option Fn} {W pk sg f : Nat} (hP : P pk = some fnPick) (hS : P sg = some (fnSign pk)) (hF : P f = some (fnSigns sg)) {T : D} (hT : Tape T) {m : Int} (h0 : 0 ≤ m) (h1 : m ≤ 1000000) :
    ∀ k, ∃ ws T', Sgs ws ∧ (ws.length : Int) = m ∧ Tape T' ∧ run P W (k + 3) f [T, .int m] = .ret (.lst true (iL ws)) [T', .int m] := fun k => by
  have hc : ∀ T, Tape T → ∃ r T', Sg r ∧ Tape T' ∧ run P W (k + 2) sg [T] = .ret (.int r) [T'] := fun T hT => by
    obtain ⟨r, T', a, b, c, d⟩ := callSign (W := W) hP hS hT
    exact ⟨r, T', ⟨a, b⟩, c, d k⟩
  have hl : (rngD 0 m).length = m.toNat := by unfold rngD; simp
  obtain ⟨T', ws, x, e, hT', hw, hs⟩ := signs_go (W := W) (m := .int m) hc (rngD 0 m) T [] none hT (by rw [hl, sizeLine_eq]; simp; omega) (.inr trivial)
  refine ⟨ws, T', hs, by rw [hw, hl]; omega, hT', ?_⟩
  rw [run_succ hF]
  have sm : small62 m = true := by
    unfold small62
    rw [decide_eq_true (by constructor <;> omega)]
  simp only [iL, List.map_nil, List.nil_append] at e
  simp [fnSigns, runFn, exs, ex, ev, evs, evA, back, sv, svs, atI, ixN, Tg.bind, ixP, fins, B.asg, S.asg, Tg.asg, deq_int, evSrc, sm, e, iL]
end VM

namespace VM
open PySem L2
theorem py_ints : ∀ ws : List Int, D.py.pyL (ws.map D.int) = some (ws.map PyData.int)
  | [] => rfl
  | w :: ws => by
    show (match D.py (.int w), D.py.pyL (ws.map D.int) with | some a, some b => some (a :: b) | _, _ => none) = _
    rw [py_ints ws] <;> rfl
theorem lay_ints : ∀ ws : List Int, PyData.canLayAll0 (ws.map PyData.int) = true
  | [] => by simp [PyData.canLayAll0]
  | w :: ws => by simp [PyData.canLayAll0, PyData.canLay0, lay_ints ws]
theorem dep_ints : ∀ ws : List Int, PyData.depthAll (ws.map PyData.int) = 0
  | [] => by simp [PyData.depthAll]
  | w :: ws => by simp [PyData.depthAll, PyData.depth, dep_ints ws]
theorem eqv_ints : ∀ a b : List Int, PyData.eqvAll (a.map PyData.int) (b.map PyData.int) = decide (a = b)
  | [], [] => by simp [PyData.eqvAll]
  | [], _ :: _ => by simp [PyData.eqvAll]
  | _ :: _, [] => by simp [PyData.eqvAll]
  | x :: a, y :: b => by
    simp only [List.map_cons, PyData.eqvAll, PyData.eqv, eqv_ints a b]
    by_cases h : x = y <;> by_cases h2 : a = b <;> simp [h, h2]
theorem deq_tup (a b : List Int) : deq (.tup (a.map D.int)) (.tup (b.map D.int)) = some (decide (a = b)) := by
  have e : ∀ ws : List Int, D.py (.tup (ws.map D.int)) = some (.tuple (ws.map PyData.int)) := fun ws => by
    show (D.py.pyL (ws.map D.int)).map PyData.tuple = _
    rw [py_ints] <;> rfl
  have s : ∀ ws : List Int, PyData.plain (.tuple (ws.map PyData.int)) = true := fun ws => by
    simp only [PyData.plain]
    induction ws with
    | nil => rfl
    | cons w ws ih => simp [PyData.plainAll, PyData.plain, ih]
  unfold deq
  rw [e, e]
  show peq _ _ = _
  unfold peq
  rw [if_pos ⟨s a, s b, by simp [PyData.depth, dep_ints]⟩]
  simp only [PyData.eqv, eqv_ints]
/-! ### signs, rows, things of the program -/
def fnIsInt : Fn := ⟨1, 1, (.cons (.ret (.sx (.and (.op (.isi [.int]) (.cons (.var 0) .nil)) (.not (.op (.isi [.bool]) (.cons (.var 0) .nil)))))) .nil)⟩
/-- is_sign, is_form: below z -/
def fnIsBelow (ii : Nat) (z : Int) : Fn := ⟨1, 1, (.cons (.ret (.and (.call ii (.nm 0 .nil)) (.sx (.chain .le .lt (.cst (.int 0)) (.var 0) (.cst (.int z)))))) .nil)⟩
def elRow (is : Nat) : M := .call is (.nm 1 .nil)
def fnIsRow (is : Nat) : Fn := ⟨1, 2, (.cons (.ifs (.sx (.not (.op (.isi [.list, .tuple]) (.cons (.var 0) .nil)))) (.cons (.ret (.sx (.cst (.bl false)))) .nil) .nil) (.cons (.ret (.op .allB (.cons (.lc (.nm 1) (elRow is) (.sx (.var 0)) (.cst (.bl true))) .nil))) .nil))⟩
def fnCheckedRow (ir c : Nat) : Fn := ⟨1, 1, (.cons (.ifs (.not (.call ir (.nm 0 .nil))) (.cons (.raise c (.cons (.sx (.var 0)) .nil)) .nil) .nil) (.cons (.ret (.new .tupOf (.cons (.var 0) .nil))) .nil))⟩
/-- checked_form, checked_sign -/
def fnChecked (t c : Nat) : Fn := ⟨1, 1, (.cons (.ifs (.not (.call t (.nm 0 .nil))) (.cons (.raise c (.cons (.sx (.var 0)) .nil)) .nil) .nil) (.cons (.ret (.sx (.var 0))) .nil))⟩
def fnIsThing (ir : Nat) : Fn := ⟨1, 1, (.cons (.ret (.and (.call ir (.nm 0 .nil)) (.and (.sx (.op .ge (.cons (.op .len (.cons (.var 0) .nil)) (.cons (.cst (.int 2)) .nil)))) (.sx (.op .lt (.cons (.op .idx (.cons (.var 0) (.cons (.cst (.int 0)) .nil))) (.cons (.cst (.int 5)) .nil))))))) .nil)⟩
def fnPart (ct : Nat) (i : Int) : Fn := ⟨1, 1, (.cons (.ret (.op .idx (.cons (.call ct (.nm 0 .nil)) (.cons (.sx (.cst (.int i))) .nil)))) .nil)⟩
def fnBodyOf (ct mv : Nat) : Fn := ⟨1, 2, (.cons (.set (.nm 1) (.call ct (.nm 0 .nil))) (.cons (.ret (.call mv (.ex (.new (.cut true false) (.cons (.var 1) (.cons (.cst (.int 2)) .nil))) (.ex (.new .mul (.cons (.op .neg (.cons (.cst (.int 20)) .nil)) (.cons (.op .idx (.cons (.var 1) (.cons (.cst (.int 0)) .nil))) .nil))) .nil)))) .nil))⟩
def fnThingOf (cf cs cr mv : Nat) : Fn := ⟨3, 3, (.cons (.expr (.call cf (.nm 0 .nil))) (.cons (.expr (.call cs (.nm 1 .nil))) (.cons (.ret (.aop .add (.cons (.sx (.tup (.cons (.var 0) (.cons (.var 1) .nil)))) (.cons (.call mv (.ex (.call cr (.nm 2 .nil)) (.ex (.new .mul (.cons (.cst (.int 20)) (.cons (.var 0) .nil))) .nil))) .nil)))) .nil)))⟩
section
variable {P : Nat → Option Fn} {W : Nat}
theorem callIsInt {f : Nat} (hF : P f = some fnIsInt) (n : Int) (k : Nat) : run P W (k + 1) f [.int n] = .ret (.bl true) [.int n] := by
  rw [run_succ hF]
  simp [fnIsInt, runFn, exs, ex, ev, evs, evA, back, sv, svs, atI, ixN, Tg.bind, ixP, fins, B.asg, S.asg, Tg.asg, deq_int, Kd.isTy]
theorem callIsBelow {ii f : Nat} {z : Int} (hI : P ii = some fnIsInt) (hF : P f = some (fnIsBelow ii z)) (n : Int) (k : Nat) : run P W (k + 2) f [.int n] = .ret (.bl (decide (0 ≤ n ∧ n < z))) [.int n] := by
  rw [run_succ hF]
  have e := callIsInt (W := W) hI n k
  by_cases h : 0 ≤ n
  · by_cases h2 : n < z <;> simp [fnIsBelow, runFn, exs, ex, ev, evs, evA, back, sv, svs, atI, ixN, Tg.bind, ixP, fins, B.asg, S.asg, Tg.asg, deq_int, e, h, h2]
  · simp [fnIsBelow, runFn, exs, ex, ev, evs, evA, back, sv, svs, atI, ixN, Tg.bind, ixP, fins, B.asg, S.asg, Tg.asg, deq_int, e, h]
theorem row_go {call : Nat → List D → Rr} {is : Nat} {m : D} : ∀ ws : List Int, (∀ w ∈ ws, call is [.int w] = .ret (.bl true) [.int w]) →
    lcGo (ev call none (elRow is)) (fun _ => some (.bl true)) (.nm 1) (iL ws) [some m, none] = .ok (ws.map fun _ => D.bl true) [some m, none]
  | [], _ => by simp [lcGo]
  | w :: ws, h => by
    have h1 := h w List.mem_cons_self
    have h2 := row_go (m := m) ws fun u hu => h u (List.mem_cons_of_mem _ hu)
    simp only [iL] at h2
    rw [show iL (w :: ws) = .int w :: ws.map D.int from rfl, lcGo]
    have e1 : ev call none (elRow is) [some m, some (.int w)] = .ok (.bl true) [some m, some (.int w)] := by simp [elRow, runFn, exs, ex, ev, evs, evA, back, sv, svs, atI, ixN, Tg.bind, ixP, fins, B.asg, S.asg, Tg.asg, deq_int, h1]
    simp [Tg.bind, Tg.asg, clr, e1, h2]
theorem bools_true : ∀ ws : List Int, boolsOf (ws.map fun _ => D.bl true) = some (ws.map fun _ => true)
  | [] => rfl
  | w :: ws => by simp [boolsOf, bools_true ws]
theorem callIsRow {ii is f : Nat} (hI : P ii = some fnIsInt) (hS : P is = some (fnIsBelow ii 100)) (hF : P f = some (fnIsRow is)) {ws : List Int} (hw : Sgs ws) (hl : ws.length ≤ sizeLine) (k : Nat) : run P W (k + 3) f [.tup (iL ws)] = .ret (.bl true) [.tup (iL ws)] := by
  rw [run_succ hF]
  have h1 : ∀ w ∈ ws, run P W (k + 2) is [.int w] = .ret (.bl true) [.int w] := fun w h => by
    rw [callIsBelow hI hS w k, decide_eq_true (show 0 ≤ w ∧ w < 100 from hw w h)]
  have h2 := row_go (call := run P W (k + 2)) (m := .tup (iL ws)) ws h1
  simp only [iL] at h2
  have e : (ws.map fun _ => true).all id = true := by simp
  simp [fnIsRow, runFn, exs, ex, ev, evs, evA, back, sv, svs, atI, ixN, Tg.bind, ixP, fins, B.asg, S.asg, Tg.asg, deq_int, Kd.isTy, evSrc, clr, iL, hl, h2, bools_true]
theorem callCheckedRow {ii is ir c f : Nat} (hI : P ii = some fnIsInt) (hS : P is = some (fnIsBelow ii 100)) (hR : P ir = some (fnIsRow is)) (hF : P f = some (fnCheckedRow ir c)) {ws : List Int} (hw : Sgs ws) (hl : ws.length ≤ sizeLine) (k : Nat) : run P W (k + 4) f [.tup (iL ws)] = .ret (.tup (iL ws)) [.tup (iL ws)] := by
  rw [run_succ hF]
  have e := callIsRow (W := W) hI hS hR hw hl k
  simp only [iL] at e
  simp [fnCheckedRow, runFn, exs, ex, ev, evs, evA, back, sv, svs, atI, ixN, Tg.bind, ixP, fins, B.asg, S.asg, Tg.asg, deq_int, iL, e]
theorem callChecked {ii t c f : Nat} {z : Int} (hI : P ii = some fnIsInt) (hT : P t = some (fnIsBelow ii z)) (hF : P f = some (fnChecked t c)) {n : Int} (h0 : 0 ≤ n) (h1 : n < z) (k : Nat) : run P W (k + 3) f [.int n] = .ret (.int n) [.int n] := by
  rw [run_succ hF]
  have e := callIsBelow (W := W) hI hT n k
  rw [decide_eq_true ⟨h0, h1⟩] at e
  simp [fnChecked, runFn, exs, ex, ev, evs, evA, back, sv, svs, atI, ixN, Tg.bind, ixP, fins, B.asg, S.asg, Tg.asg, deq_int, e]
/-- a thing: form, number, body -/
structure Thing (ws : List Int) (f n : Int) (b : List Int) : Prop where
  eq : ws = f :: n :: b
  f0 : 0 ≤ f
  f1 : f < 5
  n0 : Sg n
  bs : Sgs b
  len : b.length ≤ 100000
theorem Thing.sgs {ws f n b} (h : Thing ws f n b) : Sgs ws := by
  obtain ⟨rfl, f0, f1, n0, bs, _⟩ := h
  intro w hw
  simp only [List.mem_cons] at hw
  rcases hw with rfl | rfl | hw
  · exact ⟨f0, by omega⟩
  · exact n0
  · exact bs w hw
theorem Thing.sz {ws f n b} (h : Thing ws f n b) : ws.length ≤ sizeLine := by
  obtain ⟨rfl, _, _, _, _, l⟩ := h
  rw [sizeLine_eq]
  simp
  omega
theorem callIsThing {ii is ir f : Nat} (hI : P ii = some fnIsInt) (hS : P is = some (fnIsBelow ii 100)) (hR : P ir = some (fnIsRow is)) (hF : P f = some (fnIsThing ir)) {ws b : List Int} {g n : Int} (h : Thing ws g n b) (k : Nat) : run P W (k + 4) f [.tup (iL ws)] = .ret (.bl true) [.tup (iL ws)] := by
  rw [run_succ hF]
  have e := callIsRow (W := W) hI hS hR h.sgs h.sz k
  obtain ⟨rfl, f0, f1, n0, bs, l⟩ := h
  simp only [iL, List.map_cons] at e
  have z : (2 : Int) ≤ ((b.length : Int) + 1 + 1) := by omega
  have z2 : ¬ ((b.length : Int) + 1 + 1 ≤ 0) := by omega
  have z3 : (0 : Int) < (b.length : Int) + 1 + 1 := by omega
  simp [fnIsThing, runFn, exs, ex, ev, evs, evA, back, sv, svs, atI, ixN, Tg.bind, ixP, fins, B.asg, S.asg, Tg.asg, deq_int, iL, e, z, z2, z3, f1]
def fnCheckedThing (it c : Nat) : Fn := ⟨1, 1, (.cons (.ifs (.not (.call it (.nm 0 .nil))) (.cons (.raise c (.cons (.sx (.var 0)) .nil)) .nil) .nil) (.cons (.ret (.new .tupOf (.cons (.var 0) .nil))) .nil))⟩
/-- where the program's defs stand -/
structure Plc where
  ii : Nat
  is : Nat
  fm : Nat
  ir : Nat
  cr : Nat
  cf : Nat
  cs : Nat
  it : Nat
  ct : Nat
  mv : Nat
  fo : Nat
  no : Nat
  bo : Nat
  th : Nat
structure Has (P : Nat → Option Fn) (o : Plc) : Prop where
  ii : P o.ii = some fnIsInt
  is : P o.is = some (fnIsBelow o.ii 100)
  fm : P o.fm = some (fnIsBelow o.ii 5)
  ir : P o.ir = some (fnIsRow o.is)
  cr : ∃ c, P o.cr = some (fnCheckedRow o.ir c)
  cf : ∃ c, P o.cf = some (fnChecked o.fm c)
  cs : ∃ c, P o.cs = some (fnChecked o.is c)
  it : P o.it = some (fnIsThing o.ir)
  ct : ∃ c, P o.ct = some (fnCheckedThing o.it c)
  mv : P o.mv = some (fnMoved 100)
  fo : P o.fo = some (fnPart o.ct 0)
  no : P o.no = some (fnPart o.ct 1)
  bo : P o.bo = some (fnBodyOf o.ct o.mv)
  th : P o.th = some (fnThingOf o.cf o.cs o.cr o.mv)
variable {o : Plc} (A : Has P o) {ws b : List Int} {g n : Int}
include A
theorem cIsThing (h : Thing ws g n b) (k : Nat) : run P W (k + 4) o.it [.tup (iL ws)] = .ret (.bl true) [.tup (iL ws)] := callIsThing A.ii A.is A.ir A.it h k
theorem cCheckedThing (h : Thing ws g n b) (k : Nat) : run P W (k + 5) o.ct [.tup (iL ws)] = .ret (.tup (iL ws)) [.tup (iL ws)] := by
  obtain ⟨c, hc⟩ := A.ct
  rw [run_succ hc]
  have e := cIsThing (W := W) A h k
  simp only [iL] at e
  simp [fnCheckedThing, runFn, exs, ex, ev, evs, evA, back, sv, svs, atI, ixN, Tg.bind, ixP, fins, B.asg, S.asg, Tg.asg, deq_int, iL, e]
theorem cForm (h : Thing ws g n b) (k : Nat) : run P W (k + 6) o.fo [.tup (iL ws)] = .ret (.int g) [.tup (iL ws)] := by
  rw [run_succ A.fo]
  have e := cCheckedThing (W := W) A h k
  obtain ⟨rfl, f0, f1, n0, bs, l⟩ := h
  simp only [iL, List.map_cons] at e
  have z3 : (0 : Int) < (b.length : Int) + 1 + 1 := by omega
  simp [fnPart, runFn, exs, ex, ev, evs, evA, back, sv, svs, atI, ixN, Tg.bind, ixP, fins, B.asg, S.asg, Tg.asg, deq_int, iL, e, z3]
theorem cNumber (h : Thing ws g n b) (k : Nat) : run P W (k + 6) o.no [.tup (iL ws)] = .ret (.int n) [.tup (iL ws)] := by
  rw [run_succ A.no]
  have e := cCheckedThing (W := W) A h k
  obtain ⟨rfl, f0, f1, n0, bs, l⟩ := h
  simp only [iL, List.map_cons] at e
  have z3 : (1 : Int) < (b.length : Int) + 1 + 1 := by omega
  simp [fnPart, runFn, exs, ex, ev, evs, evA, back, sv, svs, atI, ixN, Tg.bind, ixP, fins, B.asg, S.asg, Tg.asg, deq_int, iL, e, z3]
omit A in
theorem intsOf_map : ∀ ws : List Int, intsOf (ws.map D.int) = some ws
  | [] => rfl
  | w :: ws => by simp [intsOf, intsOf_map ws]
theorem cMoved (ws : List Int) (y : Int) (k : Nat) : run P W (k + 1) o.mv [.tup (iL ws), .int y] = .ret (.tup (iL (ws.map fun a => (a + y) % 100))) [.tup (iL ws), .int y] := by
  rw [run_moved A.mv]
  simp [iL, intsOf_map]
omit A in
theorem cut2 (a c : D) (xs : List D) : cutD (a :: c :: xs) (some 2) none = xs := by
  have e1 : HT.sIx (a :: c :: xs).length 0 (some 2) = 2 := by
    show HT.sIx (a :: c :: xs).length 0 (some ((2 : Nat) : Int)) = 2
    rw [HT.sIx_nat]
    simp
  unfold cutD
  rw [e1, HT.sIx_none]
  simp
theorem cBody (h : Thing ws g n b) (k : Nat) : run P W (k + 6) o.bo [.tup (iL ws)] = .ret (.tup (iL (b.map fun a => (a + -20 * g) % 100))) [.tup (iL ws)] := by
  rw [run_succ A.bo]
  have e := cCheckedThing (W := W) A h k
  have e2 := cMoved (W := W) A b (-20 * g) (k + 4)
  obtain ⟨rfl, f0, f1, n0, bs, l⟩ := h
  simp only [iL, List.map_cons, List.map_map] at e e2
  have z3 : (0 : Int) < (b.length : Int) + 1 + 1 := by omega
  have cm : CMulB (-20) g = true := cmul_l (by decide)
  simp [fnBodyOf, runFn, exs, ex, ev, evs, evA, back, sv, svs, atI, ixN, Tg.bind, ixP, fins, B.asg, S.asg, Tg.asg, deq_int, iL, e, z3, cut2, cm, e2]
theorem cThingOf {f : Int} (f0 : 0 ≤ f) (f1 : f < 5) (n0 : Sg n) (bs : Sgs b) (l : b.length ≤ 100000) (k : Nat) : run P W (k + 6) o.th [.int f, .int n, .tup (iL b)] = .ret (.tup (iL (f :: n :: b.map fun a => (a + 20 * f) % 100))) [.int f, .int n, .tup (iL b)] := by
  obtain ⟨c1, hc1⟩ := A.cf
  obtain ⟨c2, hc2⟩ := A.cs
  obtain ⟨c3, hc3⟩ := A.cr
  rw [run_succ A.th]
  have e1 := callChecked (W := W) A.ii A.fm hc1 f0 f1 (k + 2)
  have e2 := callChecked (W := W) A.ii A.is hc2 n0.1 n0.2 (k + 2)
  have e3 := callCheckedRow (W := W) A.ii A.is A.ir hc3 bs (by rw [sizeLine_eq]; omega) (k + 1)
  have e4 := cMoved (W := W) A b (20 * f) (k + 4)
  have cm : CMulB 20 f = true := cmul_l (by decide)
  have l2 : 2 + b.length ≤ sizeLine := by rw [sizeLine_eq]; omega
  have l3 : (2 : Nat) ≤ sizeLine := by rw [sizeLine_eq]; decide
  simp only [iL, List.map_map] at e3 e4
  simp [fnThingOf, runFn, exs, ex, ev, evs, evA, back, sv, svs, atI, ixN, Tg.bind, ixP, fins, B.asg, S.asg, Tg.asg, deq_int, iL, e1, e2, e3, e4, cm, l2, l3]
end
end VM

namespace VM
open PySem L2
@[simp] theorem fz_dct {o k v} : (D.dct o k v).fz = !o := rfl
@[simp] theorem frz_dct {o k v} : (D.dct o k v).frz = .dct false k (frzL v) := rfl
@[simp] theorem frzL_nil : frzL [] = [] := rfl
@[simp] theorem frzL_cons {d ds} : frzL (d :: ds) = d.frz :: frzL ds := rfl
@[simp] theorem kd_dct {o k v} : (D.dct o k v).kd = .dct := rfl
@[simp] theorem it_dct {o k v} : (D.dct o k v).items = none := rfl
@[simp] theorem aop_emp : aop .emp [] = some (.dct false [] []) := rfl
@[simp] theorem bop_repr {a} : bop .repr [a] = (a.py.bind prepr).map .str := by cases a <;> rfl
/-! ### small data: repr is told, == of itself is true -/
structure Sm (d : D) (n w : Nat) : Prop where
  fz : d.fz = true
  frz : d.frz = d
  py : ∃ p, d.py = some p ∧ p.depth ≤ n ∧ p.showable = true ∧ p.leavesShort 30 = true ∧ p.weight ≤ w ∧ psame p p = true
theorem Sm.mono {d : D} {n w m v : Nat} (h : Sm d n w) (h1 : n ≤ m) (h2 : w ≤ v) : Sm d m v := by
  obtain ⟨a, b, p, c1, c2, c3, c4, c5, c6⟩ := h
  exact ⟨a, b, p, c1, by omega, c3, c4, by omega, c6⟩
theorem Sm.non : Sm .non 0 0 := ⟨rfl, rfl, .none, rfl, by decide, rfl, rfl, by decide, rfl⟩
theorem Sm.bl (b : Bool) : Sm (.bl b) 0 0 := ⟨rfl, rfl, .bool b, rfl, Nat.le_refl _, rfl, rfl, Nat.le_refl _, by simp [psame]⟩
theorem Sm.int {i : Int} (h : i.natAbs < 10 ^ 25) : Sm (.int i) 0 100 := by
  have h2 : i.natAbs < 2 ^ 90 := Nat.lt_of_lt_of_le h (by decide)
  refine ⟨rfl, rfl, .int i, rfl, Nat.le_refl _, ?_, ?_, ?_, by simp [psame]⟩
  · have : i.natAbs.log2 < 1920 := by
      by_cases h0 : i.natAbs = 0
      · rw [h0]; decide
      · have := (Nat.log2_lt h0).mpr h2
        omega
    simpa [PyData.showable] using this
  · have := int_text_length_le10 (a := i) (k := 25) (by decide) h
    simp only [PyData.leavesShort, decide_eq_true_eq]
    show (Str.ofString (toString i)).length ≤ 30
    rw [PySem.ofString_length]
    omega
  · simp only [PyData.weight]
    split
    · omega
    · rename_i hi
      have h0 : i.natAbs ≠ 0 := fun e => hi (by simpa using e)
      have := (Nat.log2_lt h0).mpr h2
      omega
theorem Sm.str {x : Str} (h : x.length ≤ 100) (hc : (x.cps.toList.all fun c => decide (c < 16 ^ 8)) = true) : Sm (.str x) 0 100 :=
  ⟨rfl, rfl, .str x, rfl, Nat.le_refl _, rfl, hc, h, by simp [psame]⟩
theorem Sm.emp : Sm (.dct false [] []) 1 0 := ⟨rfl, rfl, .dict [], rfl, by decide, rfl, rfl, by decide, rfl⟩
theorem smL {n w : Nat} : ∀ {ds : List D}, (∀ d ∈ ds, Sm d n w) → fzL ds = true ∧ frzL ds = ds ∧ ∃ ps, D.py.pyL ds = some ps ∧ PyData.depthAll ps ≤ n ∧ PyData.showableAll ps = true ∧ PyData.leavesShortAll 30 ps = true ∧ PyData.weightAll ps ≤ ds.length * (w + 1) ∧ psameL ps ps = true
  | [], _ => ⟨rfl, rfl, [], rfl, Nat.zero_le _, rfl, rfl, Nat.zero_le _, rfl⟩
  | d :: ds, h => by
    obtain ⟨a, b, p, c1, c2, c3, c4, c5, c6⟩ := h d List.mem_cons_self
    obtain ⟨a', b', ps, d1, d2, d3, d4, d5, d6⟩ := smL fun e he => h e (List.mem_cons_of_mem _ he)
    refine ⟨by simp [a, a'], by simp [b, b'], p :: ps, ?_, ?_, ?_, ?_, ?_, ?_⟩
    · show (match d.py, D.py.pyL ds with | some a, some b => some (a :: b) | _, _ => none) = _
      rw [c1, d1]
    · simp only [PyData.depthAll]; omega
    · simp [PyData.showableAll, c3, d3]
    · simp [PyData.leavesShortAll, c4, d4]
    · simp only [PyData.weightAll, List.length_cons, Nat.add_mul]
      omega
    · simp [psameL, c6, d6]
theorem Sm.lst {n w : Nat} {ds : List D} (h : ∀ d ∈ ds, Sm d n w) : Sm (.lst false ds) (n + 1) (ds.length * (w + 1)) := by
  obtain ⟨a, b, ps, c1, c2, c3, c4, c5, c6⟩ := smL h
  refine ⟨rfl, by rw [frz_lst, b], .list ps, ?_, ?_, ?_, ?_, ?_, ?_⟩
  · show (D.py.pyL ds).map PyData.list = _
    rw [c1] <;> rfl
  · simp only [PyData.depth]; omega
  · simpa [PyData.showable] using c3
  · simpa [PyData.leavesShort] using c4
  · simpa [PyData.weight] using c5
  · simpa [psame] using c6
theorem Sm.tup {n w : Nat} {ds : List D} (h : ∀ d ∈ ds, Sm d n w) : Sm (.tup ds) (n + 1) (ds.length * (w + 1)) := by
  obtain ⟨a, b, ps, c1, c2, c3, c4, c5, c6⟩ := smL h
  refine ⟨rfl, rfl, .tuple ps, ?_, ?_, ?_, ?_, ?_, ?_⟩
  · show (D.py.pyL ds).map PyData.tuple = _
    rw [c1] <;> rfl
  · simp only [PyData.depth]; omega
  · simpa [PyData.showable] using c3
  · simpa [PyData.leavesShort] using c4
  · simpa [PyData.weight] using c5
  · simpa [psame] using c6
theorem Sm.ints {ws : List Int} (h : ∀ w ∈ ws, w.natAbs < 10 ^ 25) : ∀ d ∈ iL ws, Sm d 0 100 := fun d hd => by
  obtain ⟨w, hw, rfl⟩ := List.mem_map.mp hd
  exact Sm.int (h w hw)
/-- repr tells a text -/
theorem Sm.repr {d : D} {n w : Nat} (h : Sm d n w) (hn : n ≤ 60) (hw : w ≤ 500000) : ∃ y, d.py.bind prepr = some y := by
  obtain ⟨_, _, p, c1, c2, c3, c4, c5, c6⟩ := h
  refine ⟨p.shown, ?_⟩
  rw [c1]
  show prepr p = _
  unfold prepr
  have := PyData.shown_le 30 (by decide) p c4
  rw [if_pos ⟨c3, by omega, by rw [sizeLine_eq]; omega⟩]
theorem peq_refl {p : PyData} (hd : p.depth ≤ 60) (hs : psame p p = true) (hq : PyData.isSq p = true) : peq p p = some true := by
  unfold peq
  by_cases h : p.plain = true
  · rw [if_pos ⟨h, h, by omega⟩, SeqAt.eqv_refl_plain p h]
  · rw [if_neg fun z => h z.1, if_pos ⟨hq, hd, hs⟩]
theorem py_lst (o o' : Bool) (ds : List D) : D.py (.lst o ds) = D.py (.lst o' ds) := rfl
/-- a list, a tuple is equal to itself -/
theorem Sm.deqL {ds : List D} {n w : Nat} (h : ∀ d ∈ ds, Sm d n w) (hn : n ≤ 59) (o o' : Bool) : deq (.lst o ds) (.lst o' ds) = some true := by
  obtain ⟨_, _, p, c1, c2, c3, c4, c5, c6⟩ := Sm.lst h
  unfold deq
  rw [py_lst o false, py_lst o' false, c1]
  refine peq_refl (by omega) c6 ?_
  have c1 : (D.py.pyL ds).map PyData.list = some p := c1
  obtain ⟨q, _, rfl⟩ := Option.map_eq_some_iff.mp c1
  rfl
theorem Sm.deqT {ds : List D} {n w : Nat} (h : ∀ d ∈ ds, Sm d n w) (hn : n ≤ 59) : deq (.tup ds) (.tup ds) = some true := by
  obtain ⟨_, _, p, c1, c2, c3, c4, c5, c6⟩ := Sm.tup h
  unfold deq
  rw [c1]
  refine peq_refl (by omega) c6 ?_
  have c1 : (D.py.pyL ds).map PyData.tuple = some p := c1
  obtain ⟨q, _, rfl⟩ := Option.map_eq_some_iff.mp c1
  rfl
theorem deq_str {x y : Str} : deq (.str x) (.str y) = some (x == y) := by
  unfold deq
  show peq (.str x) (.str y) = _
  unfold peq
  rw [if_pos ⟨rfl, rfl, Nat.zero_le _⟩]
  simp [PyData.eqv]
end VM

namespace VM
open PySem L2
/-! ### the program's tests, asked of anything -/
def sgB (z : Int) : D → Bool
  | .int n => decide (0 ≤ n ∧ n < z)
  | _ => false
def rowB : D → Bool
  | .tup xs => xs.all (sgB 100)
  | .lst _ xs => xs.all (sgB 100)
  | .scr xs => xs.all (sgB 100)
  | _ => false
theorem sgB_inv {z : Int} {d : D} (h : sgB z d = true) : ∃ n, d = .int n ∧ 0 ≤ n ∧ n < z := by
  cases d <;> simp [sgB] at h
  exact ⟨_, rfl, h⟩
theorem allSg_inv : ∀ {xs : List D}, xs.all (sgB 100) = true → ∃ ws, xs = iL ws ∧ Sgs ws
  | [], _ => ⟨[], rfl, fun w h => by cases h⟩
  | x :: xs, h => by
    rw [List.all_cons, Bool.and_eq_true] at h
    obtain ⟨n, rfl, h1⟩ := sgB_inv h.1
    obtain ⟨ws, rfl, h2⟩ := allSg_inv h.2
    exact ⟨n :: ws, rfl, fun w hw => (List.mem_cons.mp hw).elim (fun e => e ▸ h1) (h2 w)⟩
theorem allSg_of : ∀ {ws : List Int}, Sgs ws → (iL ws).all (sgB 100) = true
  | [], _ => rfl
  | w :: ws, h => by
    have h1 := h w List.mem_cons_self
    have h2 := allSg_of (ws := ws) fun u hu => h u (List.mem_cons_of_mem _ hu)
    show (sgB 100 (.int w) && (iL ws).all (sgB 100)) = true
    rw [h2, Bool.and_true]
    exact decide_eq_true h1
/-- a row, as it lies -/
theorem rowB_inv {d : D} (h : rowB d = true) : ∃ ws, Sgs ws ∧ (d = .tup (iL ws) ∨ (∃ o, d = .lst o (iL ws)) ∨ d = .scr (iL ws)) := by
  cases d with
  | tup xs =>
    obtain ⟨ws, rfl, s⟩ := allSg_inv (show xs.all (sgB 100) = true from h)
    exact ⟨ws, s, .inl rfl⟩
  | lst o xs =>
    obtain ⟨ws, rfl, s⟩ := allSg_inv (show xs.all (sgB 100) = true from h)
    exact ⟨ws, s, .inr (.inl ⟨_, rfl⟩)⟩
  | scr xs =>
    obtain ⟨ws, rfl, s⟩ := allSg_inv (show xs.all (sgB 100) = true from h)
    exact ⟨ws, s, .inr (.inr rfl)⟩
  | _ => exact absurd (show false = true from h) Bool.false_ne_true
@[simp] theorem kd_ins {o c n f} : (D.ins o c n f).kd = .ins := rfl
section
variable {P : Nat → Option Fn} {W : Nat}
theorem gIsInt {f : Nat} (hF : P f = some fnIsInt) (d : D) (hd : d.fz = true) (k : Nat) : run P W (k + 1) f [d] = .ret (.bl (decide (d.kd = .int))) [d] := by
  rw [run_succ hF]
  cases h : d.kd <;> simp [fnIsInt, runFn, exs, ex, ev, evs, evA, back, sv, svs, atI, ixN, Tg.bind, ixP, fins, B.asg, S.asg, Tg.asg, deq_int, Kd.isTy, h]
theorem gIsBelow {ii f : Nat} {z : Int} (hI : P ii = some fnIsInt) (hF : P f = some (fnIsBelow ii z)) (d : D) (hd : d.fz = true) (k : Nat) : run P W (k + 2) f [d] = .ret (.bl (sgB z d)) [d] := by
  rw [run_succ hF]
  have e := gIsInt (W := W) hI d hd k
  cases d with
  | int n =>
    have e : run P W (k + 1) ii [.int n] = .ret (.bl true) [.int n] := e
    by_cases h : 0 ≤ n
    · by_cases h2 : n < z <;> simp [fnIsBelow, runFn, exs, ex, ev, evs, evA, back, sv, svs, atI, ixN, Tg.bind, ixP, fins, B.asg, S.asg, Tg.asg, deq_int, e, h, h2, sgB]
    · simp [fnIsBelow, runFn, exs, ex, ev, evs, evA, back, sv, svs, atI, ixN, Tg.bind, ixP, fins, B.asg, S.asg, Tg.asg, deq_int, e, h, sgB]
  | _ => simp [fnIsBelow, runFn, exs, ex, ev, evs, evA, back, sv, svs, atI, ixN, Tg.bind, ixP, fins, B.asg, S.asg, Tg.asg, deq_int, e, hd, sgB]
theorem gRow_go {call : Nat → List D → Rr} {is : Nat} {m : D} : ∀ xs : List D, (∀ x ∈ xs, x.fz = true ∧ call is [x] = .ret (.bl (sgB 100 x)) [x]) →
    lcGo (ev call none (elRow is)) (fun _ => some (.bl true)) (.nm 1) xs [some m, none] = .ok (xs.map fun x => D.bl (sgB 100 x)) [some m, none]
  | [], _ => by simp [lcGo]
  | x :: xs, h => by
    obtain ⟨h0, h1⟩ := h x List.mem_cons_self
    have h2 := gRow_go (m := m) xs fun u hu => h u (List.mem_cons_of_mem _ hu)
    rw [lcGo]
    have e1 : ev call none (elRow is) [some m, some x] = .ok (.bl (sgB 100 x)) [some m, some x] := by simp [elRow, runFn, exs, ex, ev, evs, evA, back, sv, svs, atI, ixN, Tg.bind, ixP, fins, B.asg, S.asg, Tg.asg, deq_int, h1, h0]
    simp [Tg.bind, Tg.asg, clr, e1, h2]
theorem bools_map (f : D → Bool) : ∀ xs : List D, boolsOf (xs.map fun x => D.bl (f x)) = some (xs.map f)
  | [] => rfl
  | x :: xs => by simp [boolsOf, bools_map f xs]
/-- what a test of a row needs: nothing owned, not too long -/
structure Rw (d : D) : Prop where
  fz : d.fz = true
  sub : ∀ xs, d.items = some xs → (∀ x ∈ xs, x.fz = true) ∧ xs.length ≤ 1000000
theorem fzL_of {xs : List D} (h : ∀ x ∈ xs, x.fz = true) : fzL xs = true := List.all_eq_true.mpr h
theorem gIsRow {ii is f : Nat} (hI : P ii = some fnIsInt) (hS : P is = some (fnIsBelow ii 100)) (hF : P f = some (fnIsRow is)) (d : D) (hd : Rw d) (k : Nat) : run P W (k + 3) f [d] = .ret (.bl (rowB d)) [d] := by
  rw [run_succ hF]
  have h1 : ∀ xs, d.items = some xs → ∀ x ∈ xs, x.fz = true ∧ run P W (k + 2) is [x] = .ret (.bl (sgB 100 x)) [x] := fun xs e x hx => ⟨(hd.sub xs e).1 x hx, gIsBelow hI hS x ((hd.sub xs e).1 x hx) k⟩
  have z := hd.fz
  have al : ∀ xs : List D, (xs.map (sgB 100)).all id = xs.all (sgB 100) := fun xs => by simp [List.all_map]
  cases d with
  | tup xs =>
    have h2 := gRow_go (call := run P W (k + 2)) (m := .tup xs) xs (h1 xs rfl)
    have hl : xs.length ≤ sizeLine := by have := (hd.sub xs rfl).2; rw [sizeLine_eq]; omega
    simp [fnIsRow, runFn, exs, ex, ev, evs, evA, back, sv, svs, atI, ixN, Tg.bind, ixP, fins, B.asg, S.asg, Tg.asg, deq_int, Kd.isTy, evSrc, clr, hl, h2, bools_map, rowB]
  | scr xs =>
    have h2 := gRow_go (call := run P W (k + 2)) (m := .scr xs) xs (h1 xs rfl)
    have hl : xs.length ≤ sizeLine := by have := (hd.sub xs rfl).2; rw [sizeLine_eq]; omega
    simp [fnIsRow, runFn, exs, ex, ev, evs, evA, back, sv, svs, atI, ixN, Tg.bind, ixP, fins, B.asg, S.asg, Tg.asg, deq_int, Kd.isTy, evSrc, clr, hl, h2, bools_map, rowB]
  | lst o xs =>
    have h2 := gRow_go (call := run P W (k + 2)) (m := .lst o xs) xs (h1 xs rfl)
    have hl : xs.length ≤ sizeLine := by have := (hd.sub xs rfl).2; rw [sizeLine_eq]; omega
    cases o with
    | true => cases z
    | false => simp [fnIsRow, runFn, exs, ex, ev, evs, evA, back, sv, svs, atI, ixN, Tg.bind, ixP, fins, B.asg, S.asg, Tg.asg, deq_int, Kd.isTy, evSrc, clr, hl, h2, bools_map, rowB]
  | _ => simp [fnIsRow, runFn, exs, ex, ev, evs, evA, back, sv, svs, atI, ixN, Tg.bind, ixP, fins, B.asg, S.asg, Tg.asg, deq_int, Kd.isTy, rowB]
/-- the tuple of what is in it -/
def tupD : D → D
  | .lst _ xs => .tup xs
  | .scr xs => .tup xs
  | d => d
theorem gCheckedRow {ii is ir c f : Nat} (hI : P ii = some fnIsInt) (hS : P is = some (fnIsBelow ii 100)) (hR : P ir = some (fnIsRow is)) (hF : P f = some (fnCheckedRow ir c)) (d : D) (hd : Rw d) (k : Nat) :
    run P W (k + 4) f [d] = if rowB d = true then .ret (tupD d) [d] else .exc c d.frz [d] := by
  rw [run_succ hF]
  have e := gIsRow (W := W) hI hS hR d hd k
  have z := hd.fz
  by_cases h : rowB d = true
  · rw [if_pos h]
    rw [h] at e
    obtain ⟨ws, h1, rfl | ⟨o, rfl⟩ | rfl⟩ := rowB_inv h
    · simp [fnCheckedRow, runFn, exs, ex, ev, evs, evA, back, sv, svs, atI, ixN, Tg.bind, ixP, fins, B.asg, S.asg, Tg.asg, deq_int, e, tupD]
    · have z2 : o = false := by cases o with | true => cases z | false => rfl
      subst z2
      simp [fnCheckedRow, runFn, exs, ex, ev, evs, evA, back, sv, svs, atI, ixN, Tg.bind, ixP, fins, B.asg, S.asg, Tg.asg, deq_int, e, tupD]
    · simp [fnCheckedRow, runFn, exs, ex, ev, evs, evA, back, sv, svs, atI, ixN, Tg.bind, ixP, fins, B.asg, S.asg, Tg.asg, deq_int, e, tupD]
  · rw [if_neg h]
    have h' : rowB d = false := by simpa using h
    rw [h'] at e
    simp [fnCheckedRow, runFn, exs, ex, ev, evs, evA, back, sv, svs, atI, ixN, Tg.bind, ixP, fins, B.asg, S.asg, Tg.asg, deq_int, e, z]
theorem gChecked {ii t c f : Nat} {z : Int} (hI : P ii = some fnIsInt) (hT : P t = some (fnIsBelow ii z)) (hF : P f = some (fnChecked t c)) (d : D) (hd : d.fz = true) (k : Nat) :
    run P W (k + 3) f [d] = if sgB z d = true then .ret d [d] else .exc c d.frz [d] := by
  rw [run_succ hF]
  have e := gIsBelow (W := W) hI hT d hd k
  by_cases h : sgB z d = true
  · rw [h] at e
    simp [fnChecked, runFn, exs, ex, ev, evs, evA, back, sv, svs, atI, ixN, Tg.bind, ixP, fins, B.asg, S.asg, Tg.asg, deq_int, e, hd, h]
  · have h' : sgB z d = false := by simpa using h
    rw [h'] at e
    simp [fnChecked, runFn, exs, ex, ev, evs, evA, back, sv, svs, atI, ixN, Tg.bind, ixP, fins, B.asg, S.asg, Tg.asg, deq_int, e, hd, h']
/-- a thing -/
def thB (d : D) : Bool := rowB d && match d.items with
  | some (.int f :: _ :: _) => decide (f < 5)
  | _ => false
theorem gIsThing {ii is ir f : Nat} (hI : P ii = some fnIsInt) (hS : P is = some (fnIsBelow ii 100)) (hR : P ir = some (fnIsRow is)) (hF : P f = some (fnIsThing ir)) (d : D) (hd : Rw d) (k : Nat) : run P W (k + 4) f [d] = .ret (.bl (thB d)) [d] := by
  rw [run_succ hF]
  have e := gIsRow (W := W) hI hS hR d hd k
  have z := hd.fz
  by_cases h : rowB d = true
  · have e2 := e
    rw [h] at e2
    unfold thB
    rw [h]
    obtain ⟨ws, h1, hz⟩ := rowB_inv h
    have go : ∀ x : D, x.fz = true → x.items = some (iL ws) → (bop .len [x] = some (.int ws.length)) → (∀ i, bop .idx [x, .int i] = atI (iL ws) i) → run P W (k + 3) ir [x] = .ret (.bl true) [x] →
        runFn (run P W (k + 3)) W (fnIsThing ir) [x] = .ret (.bl (true && match (some (iL ws) : Option (List D)) with | some (.int f :: _ :: _) => decide (f < 5) | _ => false)) [x] := fun x xf xi xl xx xe => by
      match ws, xl, xx with
      | [], xl, xx => simp [fnIsThing, runFn, exs, ex, ev, evs, evA, back, sv, svs, atI, ixN, Tg.bind, ixP, fins, B.asg, S.asg, Tg.asg, deq_int, xf, xl, xx, xe, iL]
      | [a], xl, xx => simp [fnIsThing, runFn, exs, ex, ev, evs, evA, back, sv, svs, atI, ixN, Tg.bind, ixP, fins, B.asg, S.asg, Tg.asg, deq_int, xf, xl, xx, xe, iL]
      | a :: b :: r, xl, xx =>
        have l1 : (2 : Int) ≤ (r.length : Int) + 1 + 1 := by omega
        have l2 : (0 : Int) < (r.length : Int) + 1 + 1 := by omega
        simp only [List.length_cons, Int.natCast_add, Int.cast_ofNat_Int] at xl
        simp [fnIsThing, runFn, exs, ex, ev, evs, evA, back, sv, svs, atI, ixN, Tg.bind, ixP, fins, B.asg, S.asg, Tg.asg, deq_int, xf, xl, xx, xe, iL, l1, l2]
    rcases hz with rfl | ⟨o, rfl⟩ | rfl
    · exact go _ z rfl (by simp) (fun i => rfl) e2
    · exact go _ z rfl (by simp) (fun i => rfl) e2
    · exact go _ z rfl (by simp) (fun i => rfl) e2
  · have h' : rowB d = false := by simpa using h
    rw [h'] at e
    simp [fnIsThing, runFn, exs, ex, ev, evs, evA, back, sv, svs, atI, ixN, Tg.bind, ixP, fins, B.asg, S.asg, Tg.asg, deq_int, e, z, thB, h']
/-- the words of a thing -/
theorem thB_inv {d : D} (h : thB d = true) : ∃ f n b, Sgs (f :: n :: b) ∧ f < 5 ∧ (d = .tup (iL (f :: n :: b)) ∨ (∃ o, d = .lst o (iL (f :: n :: b))) ∨ d = .scr (iL (f :: n :: b))) := by
  unfold thB at h
  obtain ⟨h1, h2⟩ := Bool.and_eq_true_iff.mp h
  obtain ⟨ws, s, hz⟩ := rowB_inv h1
  have hi : d.items = some (iL ws) := by rcases hz with rfl | ⟨o, rfl⟩ | rfl <;> rfl
  rw [hi] at h2
  match ws, s, hz, h2 with
  | [], _, _, h2 => simp [iL] at h2
  | [a], _, _, h2 => simp [iL] at h2
  | f :: n :: b, s, hz, h2 => exact ⟨f, n, b, s, by simpa [iL] using h2, hz⟩
theorem gCheckedThing {ii is ir it c f : Nat} (hI : P ii = some fnIsInt) (hS : P is = some (fnIsBelow ii 100)) (hR : P ir = some (fnIsRow is)) (hT : P it = some (fnIsThing ir)) (hF : P f = some (fnCheckedThing it c)) (d : D) (hd : Rw d) (k : Nat) :
    run P W (k + 5) f [d] = if thB d = true then .ret (tupD d) [d] else .exc c d.frz [d] := by
  rw [run_succ hF]
  have e := gIsThing (W := W) hI hS hR hT d hd k
  have z := hd.fz
  by_cases h : thB d = true
  · rw [if_pos h]
    rw [h] at e
    obtain ⟨g, n, b, h1, h2, hz⟩ := thB_inv h
    have hf : fzL (iL (g :: n :: b)) = true := fzL_ints
    generalize iL (g :: n :: b) = ds at hz hf
    rcases hz with rfl | ⟨o, rfl⟩ | rfl
    · simp [fnCheckedThing, runFn, exs, ex, ev, evs, evA, back, sv, svs, atI, ixN, Tg.bind, ixP, fins, B.asg, S.asg, Tg.asg, deq_int, e, tupD]
    · have z2 : o = false := by cases o with | true => cases z | false => rfl
      subst z2
      simp [fnCheckedThing, runFn, exs, ex, ev, evs, evA, back, sv, svs, atI, ixN, Tg.bind, ixP, fins, B.asg, S.asg, Tg.asg, deq_int, e, tupD, hf]
    · simp [fnCheckedThing, runFn, exs, ex, ev, evs, evA, back, sv, svs, atI, ixN, Tg.bind, ixP, fins, B.asg, S.asg, Tg.asg, deq_int, e, tupD]
  · rw [if_neg h]
    have h' : thB d = false := by simpa using h
    rw [h'] at e
    simp [fnCheckedThing, runFn, exs, ex, ev, evs, evA, back, sv, svs, atI, ixN, Tg.bind, ixP, fins, B.asg, S.asg, Tg.asg, deq_int, e, z]
end
end VM

namespace VM
open PySem L2
theorem exs_step {call : Nat → List D → Rr} {W : Nat} {cur : Cur} {s : S} {r : B} {E E1 : En} {o : O} (h : ex call W cur s E = .nx E1) (h2 : exs call W cur r E1 = o) : exs call W cur (.cons s r) E = o := by
  show (match ex call W cur s E with | .nx E1 => exs call W cur r E1 | o => o) = o
  rw [h]
  exact h2
theorem exs_ret {call : Nat → List D → Rr} {W : Nat} {cur : Cur} {s : S} {r : B} {E E1 : En} {d : D} (h : ex call W cur s E = .rt d E1) : exs call W cur (.cons s r) E = .rt d E1 := by
  show (match ex call W cur s E with | .nx E1 => exs call W cur r E1 | o => o) = _
  rw [h]
theorem exs_exc {call : Nat → List D → Rr} {W : Nat} {cur : Cur} {s : S} {r : B} {E E1 : En} {c : Nat} {d : D} (h : ex call W cur s E = .exc c d E1) : exs call W cur (.cons s r) E = .exc c d E1 := by
  show (match ex call W cur s E with | .nx E1 => exs call W cur r E1 | o => o) = _
  rw [h]
/-! ### things: parts, or an error -/
section
variable {P : Nat → Option Fn} {W : Nat}
def formOf (d : D) : D := (d.items.getD []).getD 0 .non
def numOf (d : D) : D := (d.items.getD []).getD 1 .non
theorem gForm {ct c : Nat} {call : Nat → List D → Rr} {d : D} (hd : d.fz = true) (h : call ct [d] = if thB d = true then .ret (tupD d) [d] else .exc c d.frz [d]) : runFn call W (fnPart ct 0) [d] = if thB d = true then .ret (formOf d) [d] else .exc c d.frz [d] := by
  by_cases t : thB d = true
  · rw [if_pos t] at h ⊢
    obtain ⟨g, n, b, h1, h2, hz⟩ := thB_inv t
    have z3 : (0 : Int) < (b.length : Int) + 1 + 1 := by omega
    have e : tupD d = .tup (iL (g :: n :: b)) ∧ formOf d = .int g := by rcases hz with rfl | ⟨o, rfl⟩ | rfl <;> exact ⟨rfl, rfl⟩
    rw [e.1] at h
    rw [e.2]
    simp only [iL, List.map_cons] at h
    simp [fnPart, runFn, exs, ex, ev, evs, evA, back, sv, svs, atI, ixN, Tg.bind, ixP, fins, B.asg, S.asg, Tg.asg, deq_int, h, hd, z3]
  · rw [if_neg t] at h ⊢
    simp [fnPart, runFn, exs, ex, ev, evs, evA, back, sv, svs, atI, ixN, Tg.bind, ixP, fins, B.asg, S.asg, Tg.asg, deq_int, h, hd]
theorem gNumber {ct c : Nat} {call : Nat → List D → Rr} {d : D} (hd : d.fz = true) (h : call ct [d] = if thB d = true then .ret (tupD d) [d] else .exc c d.frz [d]) : runFn call W (fnPart ct 1) [d] = if thB d = true then .ret (numOf d) [d] else .exc c d.frz [d] := by
  by_cases t : thB d = true
  · rw [if_pos t] at h ⊢
    obtain ⟨g, n, b, h1, h2, hz⟩ := thB_inv t
    have z3 : (1 : Int) < (b.length : Int) + 1 + 1 := by omega
    have e : tupD d = .tup (iL (g :: n :: b)) ∧ numOf d = .int n := by rcases hz with rfl | ⟨o, rfl⟩ | rfl <;> exact ⟨rfl, rfl⟩
    rw [e.1] at h
    rw [e.2]
    simp only [iL, List.map_cons] at h
    simp [fnPart, runFn, exs, ex, ev, evs, evA, back, sv, svs, atI, ixN, Tg.bind, ixP, fins, B.asg, S.asg, Tg.asg, deq_int, h, hd, z3]
  · rw [if_neg t] at h ⊢
    simp [fnPart, runFn, exs, ex, ev, evs, evA, back, sv, svs, atI, ixN, Tg.bind, ixP, fins, B.asg, S.asg, Tg.asg, deq_int, h, hd]
/-- the body of a row with a form ahead, as ints -/
def intsD (d : D) : List Int := ((d.items.getD []).map fun x => match x with | .int n => n | _ => 0)
def bodyL (d : D) : List Int := ((intsD d).drop 2).map fun a => (a + -20 * (intsD d).getD 0 0) % 100
theorem intsD_iL (ws : List Int) : ((iL ws).map fun x => match x with | D.int n => n | _ => 0) = ws := by
  induction ws with
  | nil => rfl
  | cons w ws ih => show w :: _ = _; rw [ih]
theorem gBody {ct mv c : Nat} {call : Nat → List D → Rr} {d : D} (hd : d.fz = true) (h : call ct [d] = if thB d = true then .ret (tupD d) [d] else .exc c d.frz [d])
    (hm : ∀ ws y, call mv [.tup (iL ws), .int y] = .ret (.tup (iL (ws.map fun a => (a + y) % 100))) [.tup (iL ws), .int y]) : runFn call W (fnBodyOf ct mv) [d] = if thB d = true then .ret (.tup (iL (bodyL d))) [d] else .exc c d.frz [d] := by
  by_cases t : thB d = true
  · rw [if_pos t] at h ⊢
    obtain ⟨g, n, b, h1, h2, hz⟩ := thB_inv t
    have z3 : (0 : Int) < (b.length : Int) + 1 + 1 := by omega
    have e0 : d.items = some (iL (g :: n :: b)) := by rcases hz with rfl | ⟨o, rfl⟩ | rfl <;> rfl
    have e : tupD d = .tup (iL (g :: n :: b)) := by rcases hz with rfl | ⟨o, rfl⟩ | rfl <;> rfl
    have e2 : bodyL d = b.map fun a => (a + -20 * g) % 100 := by
      unfold bodyL intsD
      rw [e0]
      show ((((iL (g :: n :: b)).map _).drop 2).map _) = _
      rw [intsD_iL]
      rfl
    have cm : CMulB (-20) g = true := cmul_l (by decide)
    have m := hm b (-20 * g)
    rw [e] at h
    rw [e2]
    simp only [iL, List.map_cons, List.map_map] at h m
    simp [fnBodyOf, runFn, exs, ex, ev, evs, evA, back, sv, svs, atI, ixN, Tg.bind, ixP, fins, B.asg, S.asg, Tg.asg, deq_int, h, hd, z3, cut2, cm, m, iL]
  · rw [if_neg t] at h ⊢
    simp [fnBodyOf, runFn, exs, ex, ev, evs, evA, back, sv, svs, atI, ixN, Tg.bind, ixP, fins, B.asg, S.asg, Tg.asg, deq_int, h, hd]
end
/-! ### deep data -/
/-- deep to n: nothing owned, not too long -/
def Dp : Nat → D → Prop
  | 0, d => d.fz = true
  | n + 1, d => d.fz = true ∧ ∀ xs, d.items = some xs → xs.length ≤ 1000000 ∧ ∀ x ∈ xs, Dp n x
theorem Dp.fz : ∀ {n : Nat} {d : D}, Dp n d → d.fz = true
  | 0, _, h => h
  | _ + 1, _, h => h.1
theorem Dp.rw_ {n : Nat} {d : D} (h : Dp (n + 1) d) : Rw d := ⟨h.1, fun xs e => ⟨fun x hx => ((h.2 xs e).2 x hx).fz, (h.2 xs e).1⟩⟩
theorem Dp.down : ∀ {n : Nat} {d : D}, Dp (n + 1) d → Dp n d
  | 0, _, h => h.1
  | n + 1, _, h => ⟨h.1, fun xs e => ⟨(h.2 xs e).1, fun x hx => ((h.2 xs e).2 x hx).down⟩⟩
theorem Dp.atom {n : Nat} {d : D} (h : d.fz = true) (hi : d.items = none) : Dp n d := by
  cases n with
  | zero => exact h
  | succ n => exact ⟨h, fun xs e => by rw [hi] at e; cases e⟩
theorem Dp.lst {xs : List D} (h : ∀ n, ∀ x ∈ xs, Dp n x) (hl : xs.length ≤ 1000000) : ∀ n, Dp n (.lst false xs)
  | 0 => rfl
  | n + 1 => ⟨rfl, fun ys e => by cases e; exact ⟨hl, h n⟩⟩
theorem Dp.tup {xs : List D} (h : ∀ n, ∀ x ∈ xs, Dp n x) (hl : xs.length ≤ 1000000) : ∀ n, Dp n (.tup xs)
  | 0 => rfl
  | n + 1 => ⟨rfl, fun ys e => by cases e; exact ⟨hl, h n⟩⟩
theorem Dp.i2 {i j : Int} : ∀ n : Nat, ∀ x ∈ [D.int i, D.int j], Dp n x := fun n x hx => by
  simp only [List.mem_cons, List.not_mem_nil, or_false] at hx
  rcases hx with rfl | rfl <;> exact Dp.atom rfl rfl
/-! ### _law_odd -/
structure OddD (d : D) : Prop where
  sm : Sm d 3 1000
  rw_ : Rw d
  sg : ∀ z : Int, z ≤ 100 → sgB z d = false
  short : ∀ xs, d.items = some xs → xs.length ≤ 10
  dp : ∀ n, Dp n d
  two : ∀ xs, d = .tup xs → xs = [.int 0, .int 1]
  eqs : ∃ k, deq d (.str "end") = some k
theorem Rw.of_items {d : D} (h : d.fz = true) (e : d.items = none) : Rw d := ⟨h, fun xs z => by rw [e] at z; cases z⟩
def fnOdd (pk : Nat) : Fn := ⟨1, 2, (.cons (.set (.nm 1) (.call pk (.nm 0 (.ex (.sx (.cst (.int 12))) .nil)))) (.cons (.ifs (.sx (.op .eq (.cons (.var 1) (.cons (.cst (.int 0)) .nil)))) (.cons (.ret (.sx (.cst .non))) .nil) .nil) (.cons (.ifs (.sx (.op .eq (.cons (.var 1) (.cons (.cst (.int 1)) .nil)))) (.cons (.ret (.sx (.cst (.bl true)))) .nil) .nil) (.cons (.ifs (.sx (.op .eq (.cons (.var 1) (.cons (.cst (.int 2)) .nil)))) (.cons (.ret (.sx (.cst (.str "abc")))) .nil) .nil) (.cons (.ifs (.sx (.op .eq (.cons (.var 1) (.cons (.cst (.int 3)) .nil)))) (.cons (.ret (.new .emp .nil)) .nil) .nil)
 (.cons (.ifs (.sx (.op .eq (.cons (.var 1) (.cons (.cst (.int 4)) .nil)))) (.cons (.ret (.aop .add (.cons (.sx (.cst (.int 100))) (.cons (.call pk (.nm 0 (.ex (.sx (.cst (.int 3))) .nil))) .nil)))) .nil) .nil)
 (.cons (.ifs (.sx (.op .eq (.cons (.var 1) (.cons (.cst (.int 5)) .nil)))) (.cons (.ret (.op .sub (.cons (.sx (.op .neg (.cons (.cst (.int 1)) .nil))) (.cons (.call pk (.nm 0 (.ex (.sx (.cst (.int 3))) .nil))) .nil)))) .nil) .nil)
 (.cons (.ifs (.sx (.op .eq (.cons (.var 1) (.cons (.cst (.int 6)) .nil)))) (.cons (.ret (.lst (.cons (.sx (.cst (.int 1))) (.cons (.sx (.cst (.int 2))) .nil)))) .nil) .nil)
 (.cons (.ifs (.sx (.op .eq (.cons (.var 1) (.cons (.cst (.int 7)) .nil)))) (.cons (.ret (.sx (.tup (.cons (.cst (.int 0)) (.cons (.cst (.int 1)) .nil))))) .nil) .nil)
 (.cons (.ifs (.sx (.op .eq (.cons (.var 1) (.cons (.cst (.int 8)) .nil)))) (.cons (.ret (.sx (.cst (.str "")))) .nil) .nil)
 (.cons (.ifs (.sx (.op .eq (.cons (.var 1) (.cons (.cst (.int 9)) .nil)))) (.cons (.ret (.sx (.cst (.bl false)))) .nil) .nil)
 (.cons (.ifs (.sx (.op .eq (.cons (.var 1) (.cons (.cst (.int 10)) .nil)))) (.cons (.ret (.sx (.op .pow (.cons (.cst (.int 10)) (.cons (.cst (.int 20)) .nil))))) .nil) .nil)
 (.cons (.ret (.lst (.cons (.lst (.cons (.sx (.cst (.int 1))) .nil)) (.cons (.sx (.cst (.int 2))) .nil)))) .nil)))))))))))))⟩
theorem OddD.int {i : Int} (h : i < 0 ∨ 100 ≤ i) (h2 : i.natAbs < 10 ^ 25) : OddD (.int i) := ⟨(Sm.int h2).mono (by decide) (by decide), .of_items rfl rfl, fun z hz => by
  show decide (0 ≤ i ∧ i < z) = false
  exact decide_eq_false (by omega), fun xs e => (by cases e), fun n => Dp.atom rfl rfl, fun xs e => (by cases e), ⟨_, rfl⟩⟩
theorem sm_int {i : Int} (h : i.natAbs < 10 ^ 25) : Sm (.int i) 0 100 := Sm.int h
theorem sz2 : (2 : Nat) ≤ sizeLine := by rw [sizeLine_eq]; decide
theorem sz1 : (1 : Nat) ≤ sizeLine := by rw [sizeLine_eq]; decide
theorem callOdd {P : Nat → Option Fn} {W pk f : Nat} (hP : P pk = some fnPick) (hF : P f = some (fnOdd pk)) {T : D} (hT : Tape T) : ∃ d T', OddD d.frz ∧ Tape T' ∧ ∀ k, run P W (k + 2) f [T] = .ret d [T'] := by
  obtain ⟨r, T1, a1, a2, h1, e1⟩ := callPick (W := W) hP hT (z := 12) (by decide) (by decide)
  obtain ⟨q, T2, b1, b2, h2, e2⟩ := callPick (W := W) hP h1 (z := 3) (by decide) (by decide)
  have f0 := (tape_own hT).1
  have f1 := (tape_own h1).1
  have s1 := sz1
  have s2 := sz2
  have smi : ∀ i : Int, i.natAbs ≤ 5 → Sm (.int i) 0 100 := fun i h => Sm.int (Nat.lt_of_le_of_lt h (by decide))
  have rr : r = 0 ∨ r = 1 ∨ r = 2 ∨ r = 3 ∨ r = 4 ∨ r = 5 ∨ r = 6 ∨ r = 7 ∨ r = 8 ∨ r = 9 ∨ r = 10 ∨ r = 11 := by omega
  have two : ∀ i j : Int, i.natAbs ≤ 5 → j.natAbs ≤ 5 → ∀ x ∈ [D.int i, D.int j], Sm x 0 100 := fun i j hi hj x hx => by
    simp only [List.mem_cons, List.not_mem_nil, or_false] at hx
    rcases hx with rfl | rfl
    · exact smi i hi
    · exact smi j hj
  rcases rr with rfl | rfl | rfl | rfl | rfl | rfl | rfl | rfl | rfl | rfl | rfl | rfl
  · exact ⟨.non, T1, ⟨Sm.non.mono (by decide) (by decide), .of_items rfl rfl, (fun _ _ => rfl), fun xs e => (by cases e), fun n => Dp.atom rfl rfl, fun xs e => (by cases e), ⟨_, rfl⟩⟩, h1, fun k => by rw [run_succ hF]; simp [fnOdd, runFn, exs, ex, ev, evs, evA, back, sv, svs, atI, ixN, Tg.bind, ixP, fins, B.asg, S.asg, Tg.asg, deq_int, e1, f0]⟩
  · exact ⟨.bl true, T1, ⟨(Sm.bl _).mono (by decide) (by decide), .of_items rfl rfl, (fun _ _ => rfl), fun xs e => (by cases e), fun n => Dp.atom rfl rfl, fun xs e => (by cases e), ⟨_, rfl⟩⟩, h1, fun k => by rw [run_succ hF]; simp [fnOdd, runFn, exs, ex, ev, evs, evA, back, sv, svs, atI, ixN, Tg.bind, ixP, fins, B.asg, S.asg, Tg.asg, deq_int, e1, f0]⟩
  · exact ⟨.str "abc", T1, ⟨(Sm.str (by decide) (by decide)).mono (by decide) (by decide), .of_items rfl rfl, (fun _ _ => rfl), fun xs e => (by cases e), fun n => Dp.atom rfl rfl, fun xs e => (by cases e), ⟨_, rfl⟩⟩, h1, fun k => by rw [run_succ hF]; simp [fnOdd, runFn, exs, ex, ev, evs, evA, back, sv, svs, atI, ixN, Tg.bind, ixP, fins, B.asg, S.asg, Tg.asg, deq_int, e1, f0]⟩
  · exact ⟨.dct false [] [], T1, ⟨Sm.emp.mono (by decide) (by decide), .of_items rfl rfl, (fun _ _ => rfl), fun xs e => (by cases e), fun n => Dp.atom rfl rfl, fun xs e => (by cases e), ⟨_, rfl⟩⟩, h1, fun k => by rw [run_succ hF]; simp [fnOdd, runFn, exs, ex, ev, evs, evA, back, sv, svs, atI, ixN, Tg.bind, ixP, fins, B.asg, S.asg, Tg.asg, deq_int, e1, f0]⟩
  · exact ⟨.int (100 + q), T2, OddD.int (by omega) (Nat.lt_of_le_of_lt (show (100 + q).natAbs ≤ 200 by omega) (by decide)), h2, fun k => by rw [run_succ hF]; simp [fnOdd, runFn, exs, ex, ev, evs, evA, back, sv, svs, atI, ixN, Tg.bind, ixP, fins, B.asg, S.asg, Tg.asg, deq_int, e1, e2, f0, f1]⟩
  · exact ⟨.int (-1 - q), T2, OddD.int (by omega) (Nat.lt_of_le_of_lt (show (-1 - q).natAbs ≤ 200 by omega) (by decide)), h2, fun k => by rw [run_succ hF]; simp [fnOdd, runFn, exs, ex, ev, evs, evA, back, sv, svs, atI, ixN, Tg.bind, ixP, fins, B.asg, S.asg, Tg.asg, deq_int, e1, e2, f0, f1]⟩
  · exact ⟨.lst true [.int 1, .int 2], T1, ⟨(Sm.lst (two 1 2 (by decide) (by decide))).mono (by decide) (by decide), ⟨rfl, fun xs e => by cases e; exact ⟨by simp, by decide⟩⟩, (fun _ _ => rfl), fun xs e => (by cases e; decide), Dp.lst Dp.i2 (by decide), fun xs e => (by cases e), ⟨_, rfl⟩⟩, h1, fun k => by rw [run_succ hF]; simp [fnOdd, runFn, exs, ex, ev, evs, evA, back, sv, svs, atI, ixN, Tg.bind, ixP, fins, B.asg, S.asg, Tg.asg, deq_int, e1, f0, s2]⟩
  · exact ⟨.tup [.int 0, .int 1], T1, ⟨(Sm.tup (two 0 1 (by decide) (by decide))).mono (by decide) (by decide), ⟨rfl, fun xs e => by cases e; exact ⟨by simp, by decide⟩⟩, (fun _ _ => rfl), fun xs e => (by cases e; decide), Dp.tup Dp.i2 (by decide), fun xs e => (by cases e; rfl), ⟨_, rfl⟩⟩, h1, fun k => by rw [run_succ hF]; simp [fnOdd, runFn, exs, ex, ev, evs, evA, back, sv, svs, atI, ixN, Tg.bind, ixP, fins, B.asg, S.asg, Tg.asg, deq_int, e1, f0, s2]⟩
  · exact ⟨.str "", T1, ⟨(Sm.str (by decide) (by decide)).mono (by decide) (by decide), .of_items rfl rfl, (fun _ _ => rfl), fun xs e => (by cases e), fun n => Dp.atom rfl rfl, fun xs e => (by cases e), ⟨_, rfl⟩⟩, h1, fun k => by rw [run_succ hF]; simp [fnOdd, runFn, exs, ex, ev, evs, evA, back, sv, svs, atI, ixN, Tg.bind, ixP, fins, B.asg, S.asg, Tg.asg, deq_int, e1, f0]⟩
  · exact ⟨.bl false, T1, ⟨(Sm.bl _).mono (by decide) (by decide), .of_items rfl rfl, (fun _ _ => rfl), fun xs e => (by cases e), fun n => Dp.atom rfl rfl, fun xs e => (by cases e), ⟨_, rfl⟩⟩, h1, fun k => by rw [run_succ hF]; simp [fnOdd, runFn, exs, ex, ev, evs, evA, back, sv, svs, atI, ixN, Tg.bind, ixP, fins, B.asg, S.asg, Tg.asg, deq_int, e1, f0]⟩
  · exact ⟨.int 100000000000000000000, T1, OddD.int (by decide) (by decide), h1, fun k => by rw [run_succ hF]; simp [fnOdd, runFn, exs, ex, ev, evs, evA, back, sv, svs, atI, ixN, Tg.bind, ixP, fins, B.asg, S.asg, Tg.asg, deq_int, e1, f0]⟩
  · refine ⟨.lst true [.lst true [.int 1], .int 2], T1, ⟨?_, ⟨rfl, fun xs e => by cases e; exact ⟨by simp, by decide⟩⟩, (fun _ _ => rfl), fun xs e => (by cases e; decide), Dp.lst (fun n x hx => by
      simp only [frzL_cons, frzL_nil, List.mem_cons, List.not_mem_nil, or_false] at hx
      rcases hx with rfl | rfl
      · exact Dp.lst (fun n x hx => by simp only [frzL_cons, frzL_nil, List.mem_cons, List.not_mem_nil, or_false] at hx; rw [hx]; exact Dp.atom rfl rfl) (by decide) n
      · exact Dp.atom rfl rfl) (by decide), fun xs e => (by cases e), ⟨_, rfl⟩⟩, h1, fun k => by rw [run_succ hF]; simp [fnOdd, runFn, exs, ex, ev, evs, evA, back, sv, svs, atI, ixN, Tg.bind, ixP, fins, B.asg, S.asg, Tg.asg, deq_int, e1, f0, s2, s1]⟩
    show Sm (.lst false [.lst false [.int 1], .int 2]) 3 1000
    refine (Sm.lst (n := 1) (w := 101) fun x hx => ?_).mono (by decide) (by decide)
    simp only [List.mem_cons, List.not_mem_nil, or_false] at hx
    rcases hx with rfl | rfl
    · exact (Sm.lst (n := 0) (w := 100) fun x hx => by
        simp only [List.mem_cons, List.not_mem_nil, or_false] at hx
        rw [hx]
        exact smi 1 (by decide)).mono (by decide) (by decide)
    · exact (smi 2 (by decide)).mono (by decide) (by decide)
end VM

namespace VM
open PySem L2
/-! ### thing_of, asked of anything -/
def intD : D → Int
  | .int n => n
  | _ => 0
theorem intsD_of {d : D} {ws : List Int} (h : d.items = some (iL ws)) : intsD d = ws := by
  unfold intsD
  rw [h]
  exact intsD_iL ws
def thingL (f n : Int) (b : List Int) : List Int := f :: n :: b.map fun a => (a + 20 * f) % 100
theorem gThingOf {cf cs cr mv c1 c2 c3 W : Nat} {call : Nat → List D → Rr} {fm nm bd : D} (z1 : fm.fz = true) (z2 : nm.fz = true) (z3 : bd.fz = true)
    (h1 : call cf [fm] = if sgB 5 fm = true then .ret fm [fm] else .exc c1 fm.frz [fm]) (h2 : call cs [nm] = if sgB 100 nm = true then .ret nm [nm] else .exc c2 nm.frz [nm])
    (h3 : call cr [bd] = if rowB bd = true then .ret (tupD bd) [bd] else .exc c3 bd.frz [bd]) (hm : ∀ ws y, call mv [.tup (iL ws), .int y] = .ret (.tup (iL (ws.map fun a => (a + y) % 100))) [.tup (iL ws), .int y])
    (sh : ∀ xs, bd.items = some xs → xs.length ≤ 1000000) :
    runFn call W (fnThingOf cf cs cr mv) [fm, nm, bd] = if sgB 5 fm = true then (if sgB 100 nm = true then (if rowB bd = true then .ret (.tup (iL (thingL (intD fm) (intD nm) (intsD bd)))) [fm, nm, bd] else .exc c3 bd.frz [fm, nm, bd]) else .exc c2 nm.frz [fm, nm, bd]) else .exc c1 fm.frz [fm, nm, bd] := by
  have l3 : (2 : Nat) ≤ sizeLine := sz2
  by_cases t1 : sgB 5 fm = true
  · rw [if_pos t1] at h1 ⊢
    obtain ⟨f, rfl, f0, f1⟩ := sgB_inv t1
    by_cases t2 : sgB 100 nm = true
    · rw [if_pos t2] at h2 ⊢
      obtain ⟨n, rfl, n0, n1⟩ := sgB_inv t2
      by_cases t3 : rowB bd = true
      · rw [if_pos t3] at h3 ⊢
        obtain ⟨ws, hw, hz⟩ := rowB_inv t3
        have hi : bd.items = some (iL ws) := by rcases hz with rfl | ⟨o, rfl⟩ | rfl <;> rfl
        have e : tupD bd = .tup (iL ws) := by rcases hz with rfl | ⟨o, rfl⟩ | rfl <;> rfl
        have cm : CMulB 20 f = true := cmul_l (by decide)
        have m := hm ws (20 * f)
        have lw := sh _ hi
        rw [e] at h3
        rw [intsD_of hi]
        have l2 : 2 + (iL (ws.map fun a => (a + 20 * f) % 100)).length ≤ sizeLine := by
          simp only [iL, List.length_map] at lw ⊢
          rw [sizeLine_eq]
          omega
        show _ = Rr.ret (.tup (.int f :: .int n :: iL (ws.map fun a => (a + 20 * f) % 100))) _
        generalize iL (ws.map fun a => (a + 20 * f) % 100) = R at m l2 ⊢
        generalize iL ws = L at h3 m
        simp [fnThingOf, runFn, exs, ex, ev, evs, evA, back, sv, svs, atI, ixN, Tg.bind, ixP, fins, B.asg, S.asg, Tg.asg, deq_int, h1, h2, h3, m, cm, l2, l3, z3]
      · rw [if_neg t3] at h3 ⊢
        simp [fnThingOf, runFn, exs, ex, ev, evs, evA, back, sv, svs, atI, ixN, Tg.bind, ixP, fins, B.asg, S.asg, Tg.asg, deq_int, h1, h2, h3, z3, l3]
    · rw [if_neg t2] at h2 ⊢
      simp [fnThingOf, runFn, exs, ex, ev, evs, evA, back, sv, svs, atI, ixN, Tg.bind, ixP, fins, B.asg, S.asg, Tg.asg, deq_int, h1, h2, z2, z3]
  · rw [if_neg t1] at h1 ⊢
    simp [fnThingOf, runFn, exs, ex, ev, evs, evA, back, sv, svs, atI, ixN, Tg.bind, ixP, fins, B.asg, S.asg, Tg.asg, deq_int, h1, z1, z2, z3]
/-! ### what is handed in: small, to be read -/
structure Th (d : D) : Prop where
  sm : Sm d 4 50000
  rw_ : Rw d
  short : ∀ xs, d.items = some xs → xs.length ≤ 100
theorem Sgs.nat {ws : List Int} (h : Sgs ws) : ∀ w ∈ ws, w.natAbs < 10 ^ 25 := fun w hw => Nat.lt_of_le_of_lt (show w.natAbs ≤ 100 by have := h w hw; unfold Sg at this; omega) (by decide)
theorem rw_lst {ds : List D} (h : ∀ x ∈ ds, x.fz = true) (hl : ds.length ≤ 1000000) : Rw (.lst false ds) := ⟨rfl, fun xs e => by cases e; exact ⟨h, hl⟩⟩
theorem rw_tup {ds : List D} (h : ∀ x ∈ ds, x.fz = true) (hl : ds.length ≤ 1000000) : Rw (.tup ds) := ⟨rfl, fun xs e => by cases e; exact ⟨h, hl⟩⟩
theorem iL_fz (ws : List Int) : ∀ x ∈ iL ws, x.fz = true := fun x hx => by
  obtain ⟨w, _, rfl⟩ := List.mem_map.mp hx
  rfl
theorem th_lst {ws : List Int} (h : Sgs ws) (hl : ws.length ≤ 100) : Th (.lst false (iL ws)) := by
  have e : (iL ws).length = ws.length := List.length_map _
  exact ⟨(Sm.lst (Sm.ints (Sgs.nat h))).mono (by decide) (by rw [e]; omega), rw_lst (iL_fz ws) (by rw [e]; omega), fun xs q => by cases q; omega⟩
theorem th_tup {ws : List Int} (h : Sgs ws) (hl : ws.length ≤ 100) : Th (.tup (iL ws)) := by
  have e : (iL ws).length = ws.length := List.length_map _
  exact ⟨(Sm.tup (Sm.ints (Sgs.nat h))).mono (by decide) (by rw [e]; omega), rw_tup (iL_fz ws) (by rw [e]; omega), fun xs q => by cases q; omega⟩
theorem th_int {i : Int} (h : Sg i) : Th (.int i) := ⟨(Sm.int (Nat.lt_of_le_of_lt (show i.natAbs ≤ 100 by have := h.1; have := h.2; omega) (by decide))).mono (by decide) (by decide), .of_items rfl rfl, fun xs e => by cases e⟩
theorem th_odd {d : D} (h : OddD d) : Th d := ⟨h.sm.mono (by decide) (by decide), h.rw_, fun xs e => Nat.le_trans (h.short xs e) (by decide)⟩
theorem th_put {ws : List Int} (h : Sgs ws) (hl : ws.length ≤ 40) {d : D} (hd : OddD d) (j : Nat) : Th (.lst false ((iL ws).set j d)) := by
  have e : ((iL ws).set j d).length = ws.length := by rw [List.length_set]; exact List.length_map _
  have hm : ∀ x ∈ (iL ws).set j d, Sm x 3 1000 := fun x hx => by
    rcases List.mem_or_eq_of_mem_set hx with hx | rfl
    · exact (Sm.ints (Sgs.nat h) x hx).mono (by decide) (by decide)
    · exact hd.sm
  exact ⟨(Sm.lst hm).mono (by decide) (by rw [e]; omega), rw_lst (fun x hx => (hm x hx).fz) (by rw [e]; omega), fun xs q => by cases q; omega⟩
theorem sm_str {x : Str} (h : x.length ≤ 100) (hc : (x.cps.toList.all fun c => decide (c < 16 ^ 8)) = true) : Sm (.str x) 4 50000 := (Sm.str h hc).mono (by decide) (by decide)
theorem all2 {p : D → Prop} {x d : D} (h1 : p x) (h2 : p d) : ∀ y ∈ [x, d], p y := fun y hy => by
  simp only [List.mem_cons, List.not_mem_nil, or_false] at hy
  rcases hy with rfl | rfl
  · exact h1
  · exact h2
theorem all3 {p : D → Prop} {x d e : D} (h1 : p x) (h2 : p d) (h3 : p e) : ∀ y ∈ [x, d, e], p y := fun y hy => by
  simp only [List.mem_cons, List.not_mem_nil, or_false] at hy
  rcases hy with rfl | rfl | rfl
  · exact h1
  · exact h2
  · exact h3
theorem sm62 {z : Int} (h0 : 0 ≤ z) (h1 : z ≤ 10000000) : small62 z = true := by
  unfold small62
  rw [decide_eq_true (by constructor <;> omega)]
theorem unmoved {b : List Int} (h : Sgs b) (f : Int) : (b.map fun a => (a + 20 * f) % 100).map (fun a => (a + -20 * f) % 100) = b := by
  rw [List.map_map]
  refine (List.map_congr_left fun a ha => ?_).trans (List.map_id b)
  obtain ⟨h1, h2⟩ := h a ha
  show ((a + 20 * f) % 100 + -20 * f) % 100 = a
  omega
theorem sgs_mod (b : List Int) (g : Int → Int) : Sgs (b.map fun a => g a % 100) := fun w hw => by
  obtain ⟨a, _, rfl⟩ := List.mem_map.mp hw
  exact ⟨Int.emod_nonneg _ (by decide), Int.emod_lt_of_pos _ (by decide)⟩
theorem thB_of {f n : Int} {b : List Int} (h : Sgs (f :: n :: b)) (hf : f < 5) : thB (.tup (iL (f :: n :: b))) = true := by
  unfold thB
  rw [show rowB (.tup (iL (f :: n :: b))) = (iL (f :: n :: b)).all (sgB 100) from rfl, allSg_of h]
  simp [iL, hf]
end VM

namespace VM
open PySem L2
/-! ### rules: what they are, how they lie, how they are written -/
inductive RIt where
  | put (xs : List Int) | plus (a : Int) | own (a b : Int)
inductive RWd where
  | sg (a : Int) | other | fin
structure RRu where
  st : Int
  wd : RWd
  its : List RIt
  nx : Option Int
def RIt.d : RIt → D
  | .put xs => .tup [.str "put", .tup (iL xs)]
  | .plus a => .tup [.str "plus", .int a]
  | .own a b => .tup [.str "own", .int a, .int b]
def RWd.d : RWd → D
  | .sg a => .int a
  | .other => .str "other"
  | .fin => .str "end"
def optD : Option Int → D
  | none => .non
  | some a => .int a
def RRu.d (r : RRu) : D := .tup [.int r.st, r.wd.d, .tup (r.its.map RIt.d), optD r.nx]
def RIt.ok : RIt → Prop
  | .put xs => Sgs xs ∧ xs.length ≤ 99
  | .plus a => Sg a
  | .own a b => Sg a ∧ Sg b
def RWd.ok : RWd → Prop
  | .sg a => Sg a
  | _ => True
structure RRu.ok (r : RRu) : Prop where
  st : Sg r.st
  wd : r.wd.ok
  its : ∀ i ∈ r.its, i.ok
  len : r.its.length ≤ 99
  nx : match r.nx with | some a => Sg a ∧ r.wd ≠ .fin | none => r.wd = .fin
def spIt : RIt → List Int
  | .put xs => 0 :: (xs.length : Int) :: xs
  | .plus a => [1, a]
  | .own a b => [2, a, b]
def spWd : RWd → List Int
  | .sg a => [0, a]
  | .other => [1]
  | .fin => [2]
def spOp : Option Int → List Int
  | none => []
  | some a => [a]
def spIts (is : List RIt) : List Int := is.flatMap spIt
def spRu (r : RRu) : List Int := r.st :: (spWd r.wd ++ (r.its.length : Int) :: (spIts r.its ++ spOp r.nx))
def spRus (rs : List RRu) : List Int := rs.flatMap spRu
theorem spIt_len {i : RIt} (h : i.ok) : 2 ≤ (spIt i).length ∧ (spIt i).length ≤ 101 := by
  cases i with
  | put xs => have := h.2; simp [spIt]; omega
  | plus a => simp [spIt]
  | own a b => simp [spIt]
theorem spIts_len : ∀ {is : List RIt}, (∀ i ∈ is, i.ok) → (spIts is).length ≤ 101 * is.length
  | [], _ => by simp [spIts]
  | i :: is, h => by
    have h1 := (spIt_len (h i List.mem_cons_self)).2
    have h2 := spIts_len (is := is) fun j hj => h j (List.mem_cons_of_mem _ hj)
    simp only [spIts, List.flatMap_cons, List.length_append, List.length_cons] at h2 ⊢
    omega
theorem spRu_len {r : RRu} (h : r.ok) (m : Nat) (hm : r.its.length ≤ m) : (spRu r).length ≤ 101 * m + 5 := by
  have h1 := spIts_len h.its
  have h2 : (spWd r.wd).length ≤ 2 := by cases r.wd <;> simp [spWd]
  have h3 : (spOp r.nx).length ≤ 1 := by cases r.nx <;> simp [spOp]
  have : 101 * r.its.length ≤ 101 * m := Nat.mul_le_mul_left _ hm
  simp only [spRu, List.length_cons, List.length_append]
  omega
theorem spRus_len (m : Nat) : ∀ {rs : List RRu}, (∀ r ∈ rs, r.ok ∧ r.its.length ≤ m) → (spRus rs).length ≤ (101 * m + 5) * rs.length
  | [], _ => by simp [spRus]
  | r :: rs, h => by
    have h1 := spRu_len (h r List.mem_cons_self).1 m (h r List.mem_cons_self).2
    have h2 := spRus_len m (rs := rs) fun j hj => h j (List.mem_cons_of_mem _ hj)
    simp only [spRus, List.flatMap_cons, List.length_append, List.length_cons, Nat.mul_add] at h2 ⊢
    omega
theorem sg_nat {n : Nat} (h : n ≤ 99) : Sg (n : Int) := ⟨by omega, by omega⟩
theorem Sgs.nil : Sgs [] := fun w h => by cases h
theorem Sgs.cons {a : Int} {ws : List Int} (h : Sg a) (k : Sgs ws) : Sgs (a :: ws) := fun w hw => (List.mem_cons.mp hw).elim (fun e => e ▸ h) (k w)
theorem Sgs.app {a b : List Int} (h : Sgs a) (k : Sgs b) : Sgs (a ++ b) := fun w hw => (List.mem_append.mp hw).elim (h w) (k w)
theorem spIt_sgs {i : RIt} (h : i.ok) : Sgs (spIt i) := by
  cases i with
  | put xs => exact .cons ⟨by decide, by decide⟩ (.cons (sg_nat h.2) h.1)
  | plus a => exact .cons ⟨by decide, by decide⟩ (.cons h .nil)
  | own a b => exact .cons ⟨by decide, by decide⟩ (.cons h.1 (.cons h.2 .nil))
theorem spIts_sgs : ∀ {is : List RIt}, (∀ i ∈ is, i.ok) → Sgs (spIts is)
  | [], _ => .nil
  | i :: is, h => (spIt_sgs (h i List.mem_cons_self)).app (spIts_sgs fun j hj => h j (List.mem_cons_of_mem _ hj))
theorem spRu_sgs {r : RRu} (h : r.ok) : Sgs (spRu r) := by
  refine .cons h.st (.app ?_ (.cons (sg_nat h.len) ((spIts_sgs h.its).app ?_)))
  · have := h.wd
    cases e : r.wd with
    | sg a => rw [e] at this; exact .cons ⟨by decide, by decide⟩ (.cons this .nil)
    | other => exact .cons ⟨by decide, by decide⟩ .nil
    | fin => exact .cons ⟨by decide, by decide⟩ .nil
  · have := h.nx
    cases e : r.nx with
    | none => exact .nil
    | some a => rw [e] at this; exact .cons this.1 .nil
theorem spRus_sgs : ∀ {rs : List RRu}, (∀ r ∈ rs, r.ok) → Sgs (spRus rs)
  | [], _ => .nil
  | r :: rs, h => (spRu_sgs (h r List.mem_cons_self)).app (spRus_sgs fun j hj => h j (List.mem_cons_of_mem _ hj))
@[simp] theorem itd_fz (i : RIt) : i.d.fz = true := by cases i <;> rfl
@[simp] theorem itd_frz (i : RIt) : i.d.frz = i.d := by cases i <;> rfl
@[simp] theorem wdd_fz (i : RWd) : i.d.fz = true := by cases i <;> rfl
@[simp] theorem wdd_frz (i : RWd) : i.d.frz = i.d := by cases i <;> rfl
@[simp] theorem opd_fz (i : Option Int) : (optD i).fz = true := by cases i <;> rfl
@[simp] theorem opd_frz (i : Option Int) : (optD i).frz = optD i := by cases i <;> rfl
@[simp] theorem rud_fz (r : RRu) : r.d.fz = true := rfl
@[simp] theorem rud_frz (r : RRu) : r.d.frz = r.d := rfl
@[simp] theorem fzL_its (is : List RIt) : fzL (is.map RIt.d) = true := by
  induction is with
  | nil => rfl
  | cons i is ih => rw [List.map_cons, fzL_cons, ih, itd_fz] <;> rfl
@[simp] theorem fzL_rus (is : List RRu) : fzL (is.map RRu.d) = true := by
  induction is with
  | nil => rfl
  | cons i is ih => rw [List.map_cons, fzL_cons, ih, rud_fz] <;> rfl
@[simp] theorem frzL_rus (is : List RRu) : frzL (is.map RRu.d) = is.map RRu.d := by
  induction is with
  | nil => rfl
  | cons i is ih => rw [List.map_cons, frzL_cons, ih, rud_frz]
@[simp] theorem deq_intStr {a : Int} {x : Str} : deq (.int a) (.str x) = some false := by
  unfold deq
  show peq (.int a) (.str x) = _
  unfold peq
  rw [if_pos ⟨rfl, rfl, Nat.zero_le _⟩]
  simp [PyData.eqv]
@[simp] theorem deq_strInt {a : Int} {x : Str} : deq (.str x) (.int a) = some false := by
  unfold deq
  show peq (.str x) (.int a) = _
  unfold peq
  rw [if_pos ⟨rfl, rfl, Nat.zero_le _⟩]
  simp [PyData.eqv]
theorem forGo_nm {i : Nat} {body : En → O} {d : D} {ds : List D} {E : En} (hi : i < E.length) : forGo (.nm i) body (d :: ds) E = turnO (body (E.set i (some d))) (forGo (.nm i) body ds) := by
  rw [forGo_cons]
  simp only [Tg.bind]
  rw [if_pos hi]
/-! ### the law's drawing of rules -/
def fnItem (pk sg sgs : Nat) : Fn := ⟨1, 3, (.cons (.set (.nm 1) (.call pk (.nm 0 (.ex (.sx (.cst (.int 6))) .nil)))) (.cons (.ifs (.sx (.op .le (.cons (.var 1) (.cons (.cst (.int 2)) .nil)))) (.cons (.set (.nm 2) (.call pk (.nm 0 (.ex (.sx (.cst (.int 3))) .nil)))) (.cons (.ifs (.op .eq (.cons (.call pk (.nm 0 (.ex (.sx (.cst (.int 23))) .nil))) (.cons (.sx (.cst (.int 0))) .nil))) (.cons (.set (.nm 2) (.aop .add (.cons (.sx (.cst (.int 20))) (.cons (.call pk (.nm 0 (.ex (.sx (.cst (.int 80))) .nil))) .nil)))) .nil) .nil) (.cons (.ret (.tup (.cons (.sx (.cst (.str "put"))) (.cons (.aop .tupOf (.cons (.call sgs (.nm 0 (.nm 2 .nil))) .nil)) .nil)))) .nil))) .nil) (.cons (.ifs (.sx (.op .le (.cons (.var 1) (.cons (.cst (.int 4)) .nil)))) (.cons (.ret (.tup (.cons (.sx (.cst (.str "plus"))) (.cons (.call sg (.nm 0 .nil)) .nil)))) .nil) .nil) (.cons (.ret (.tup (.cons (.sx (.cst (.str "own"))) (.cons (.call sg (.nm 0 .nil)) (.cons (.call sg (.nm 0 .nil)) .nil))))) .nil))))⟩
def lpRule (it : Nat) : B := (.cons (.expr (.mut .append 4 (.cons (.call it (.nm 0 .nil)) .nil))) .nil)
def fnARule (pk sg it : Nat) : Fn := ⟨2, 7, (.cons (.set (.nm 2) (.call pk (.nm 0 (.nm 1 .nil)))) (.cons (.set (.nm 3) (.call pk (.nm 0 (.ex (.sx (.cst (.int 5))) .nil)))) (.cons (.set (.nm 4) (.lst .nil)) (.cons (.fors (.nm 5) (.rngM (.call pk (.nm 0 (.ex (.sx (.cst (.int 4))) .nil)))) (lpRule it)) (.cons (.ifs (.sx (.op .eq (.cons (.var 3) (.cons (.cst (.int 0)) .nil)))) (.cons (.ret (.sx (.tup (.cons (.var 2) (.cons (.cst (.str "end")) (.cons (.aop .tupOf (.cons (.var 4) .nil)) (.cons (.cst .non) .nil))))))) .nil) .nil) (.cons (.set (.nm 6) (.call pk (.nm 0 (.nm 1 .nil)))) (.cons (.ifs (.sx (.op .le (.cons (.var 3) (.cons (.cst (.int 2)) .nil)))) (.cons (.ret (.sx (.tup (.cons (.var 2) (.cons (.cst (.str "other")) (.cons (.aop .tupOf (.cons (.var 4) .nil)) (.cons (.var 6) .nil))))))) .nil) .nil) (.cons (.ret (.tup (.cons (.sx (.var 2)) (.cons (.call sg (.nm 0 .nil)) (.cons (.sx (.aop .tupOf (.cons (.var 4) .nil))) (.cons (.sx (.var 6)) .nil)))))) .nil))))))))⟩
def lpRules (ru : Nat) : B := (.cons (.expr (.mut .append 3 (.cons (.call ru (.nm 0 (.nm 2 .nil))) .nil))) .nil)
def fnRules (pk ru : Nat) : Fn := ⟨2, 5, (.cons (.set (.nm 2) (.aop .add (.cons (.sx (.cst (.int 1))) (.cons (.call pk (.nm 0 (.ex (.sx (.cst (.int 4))) .nil))) .nil)))) (.cons (.ifs (.op .eq (.cons (.call pk (.nm 0 (.ex (.sx (.cst (.int 7))) .nil))) (.cons (.sx (.cst (.int 0))) .nil))) (.cons (.set (.nm 2) (.sx (.cst (.int 100)))) .nil) .nil) (.cons (.set (.nm 3) (.lst .nil)) (.cons (.fors (.nm 4) (.rngM (.call pk (.nm 0 (.ex (.new .add (.cons (.var 1) (.cons (.cst (.int 1)) .nil))) .nil)))) (lpRules ru)) (.cons (.ret (.tk 3)) .nil)))))⟩
def lpSpI : B := (.cons (.ifs (.sx (.op .eq (.cons (.op .idx (.cons (.var 7) (.cons (.cst (.int 0)) .nil))) (.cons (.cst (.str "put")) .nil)))) (.cons (.expr (.mut .append 2 (.cons (.sx (.cst (.int 0))) .nil))) (.cons (.expr (.mut .append 2 (.cons (.sx (.op .len (.cons (.op .idx (.cons (.var 7) (.cons (.cst (.int 1)) .nil))) .nil))) .nil))) (.cons (.expr (.mut .extend 2 (.cons (.sx (.aop .lstOf (.cons (.op .idx (.cons (.var 7) (.cons (.cst (.int 1)) .nil))) .nil))) .nil))) .nil))) (.cons (.ifs (.sx (.op .eq (.cons (.op .idx (.cons (.var 7) (.cons (.cst (.int 0)) .nil))) (.cons (.cst (.str "plus")) .nil)))) (.cons (.expr (.mut .append 2 (.cons (.sx (.cst (.int 1))) .nil))) (.cons (.expr (.mut .append 2 (.cons (.sx (.op .idx (.cons (.var 7) (.cons (.cst (.int 1)) .nil)))) .nil))) .nil)) (.cons (.expr (.mut .extend 2 (.cons (.lst (.cons (.sx (.cst (.int 2))) (.cons (.sx (.op .idx (.cons (.var 7) (.cons (.cst (.int 1)) .nil)))) (.cons (.sx (.op .idx (.cons (.var 7) (.cons (.cst (.int 2)) .nil)))) .nil)))) .nil))) .nil)) .nil)) .nil)
def lpSp : B := (.cons (.expr (.mut .append 2 (.cons (.sx (.var 3)) .nil))) (.cons (.ifs (.sx (.op .eq (.cons (.var 4) (.cons (.cst (.str "other")) .nil)))) (.cons (.expr (.mut .append 2 (.cons (.sx (.cst (.int 1))) .nil))) .nil) (.cons (.ifs (.sx (.op .eq (.cons (.var 4) (.cons (.cst (.str "end")) .nil)))) (.cons (.expr (.mut .append 2 (.cons (.sx (.cst (.int 2))) .nil))) .nil) (.cons (.expr (.mut .append 2 (.cons (.sx (.cst (.int 0))) .nil))) (.cons (.expr (.mut .append 2 (.cons (.sx (.var 4)) .nil))) .nil))) .nil)) (.cons (.expr (.mut .append 2 (.cons (.sx (.op .len (.cons (.var 5) .nil))) .nil))) (.cons (.fors (.nm 7) (.sx (.var 5)) lpSpI) (.cons (.ifs (.sx (.op .notN (.cons (.var 6) .nil))) (.cons (.expr (.mut .append 2 (.cons (.sx (.var 6)) .nil))) .nil) .nil) .nil)))))
def fnSpell : Fn := ⟨2, 8, (.cons (.set (.nm 2) (.lst (.cons (.sx (.var 0)) .nil))) (.cons (.fors (.tup [3, 4, 5, 6]) (.sx (.var 1)) lpSp) (.cons (.ret (.tk 2)) .nil)))⟩
section
variable {P : Nat → Option Fn} {W pk sg sgs it ru : Nat}
theorem callItem {f : Nat} (hP : P pk = some fnPick) (hS : P sg = some (fnSign pk)) (hR : P sgs = some (fnSigns sg)) (hF : P f = some (fnItem pk sg sgs)) {T : D} (hT : Tape T) (k : Nat) : ∃ i T', RIt.ok i ∧ Tape T' ∧ run P W (k + 4) f [T] = .ret i.d [T'] := by
  obtain ⟨r, T1, a1, a2, h1, e1⟩ := callPick (W := W) hP hT (z := 6) (by decide) (by decide)
  have e1 := e1 (k + 2)
  have f0 := (tape_own hT).1
  have f1 := (tape_own h1).1
  have s2 := sz2
  have s3 : (3 : Nat) ≤ sizeLine := by rw [sizeLine_eq]; decide
  rw [run_succ hF]
  by_cases c0 : r ≤ 2
  · obtain ⟨s, T2, b1, b2, h2, e2⟩ := callPick (W := W) hP h1 (z := 3) (by decide) (by decide)
    obtain ⟨q, T3, b3, b4, h3, e3⟩ := callPick (W := W) hP h2 (z := 23) (by decide) (by decide)
    have e2 := e2 (k + 2)
    have e3 := e3 (k + 2)
    have f2 := (tape_own h2).1
    have f3 := (tape_own h3).1
    by_cases c1 : q = 0
    · obtain ⟨u, T4, b5, b6, h4, e4⟩ := callPick (W := W) hP h3 (z := 80) (by decide) (by decide)
      have e4 := e4 (k + 2)
      have f4 := (tape_own h4).1
      obtain ⟨ws, T5, g1, g2, h5, e5⟩ := callSigns (W := W) hP hS hR h4 (m := 20 + u) (by omega) (by omega) k
      have f5 := (tape_own h5).1
      refine ⟨.put ws, T5, ⟨g1, by omega⟩, h5, ?_⟩
      have g3 : fzL (iL ws) = true := fzL_ints
      show _ = Rr.ret (.tup [.str "put", .tup (iL ws)]) _
      generalize iL ws = L at e5 g3 ⊢
      simp [fnItem, runFn, exs, ex, ev, evs, evA, back, sv, svs, atI, ixN, Tg.bind, ixP, fins, B.asg, S.asg, Tg.asg, deq_int, e1, e2, e3, e4, e5, f0, f1, f2, f3, f4, f5, c0, c1, s2, g3]
    · obtain ⟨ws, T5, g1, g2, h5, e5⟩ := callSigns (W := W) hP hS hR h3 (m := s) (by omega) (by omega) k
      have f5 := (tape_own h5).1
      refine ⟨.put ws, T5, ⟨g1, by omega⟩, h5, ?_⟩
      have g3 : fzL (iL ws) = true := fzL_ints
      show _ = Rr.ret (.tup [.str "put", .tup (iL ws)]) _
      generalize iL ws = L at e5 g3 ⊢
      simp [fnItem, runFn, exs, ex, ev, evs, evA, back, sv, svs, atI, ixN, Tg.bind, ixP, fins, B.asg, S.asg, Tg.asg, deq_int, e1, e2, e3, e5, f0, f1, f2, f3, f5, c0, c1, s2, g3]
  · obtain ⟨s, T2, b1, b2, h2, e2⟩ := callSign (W := W) hP hS h1
    have e2 := e2 (k + 1)
    have f2 := (tape_own h2).1
    by_cases c1 : r ≤ 4
    · exact ⟨.plus s, T2, ⟨b1, b2⟩, h2, by simp [fnItem, runFn, exs, ex, ev, evs, evA, back, sv, svs, atI, ixN, Tg.bind, ixP, fins, B.asg, S.asg, Tg.asg, deq_int, e1, e2, f0, f1, f2, c0, c1, s2, RIt.d]⟩
    · obtain ⟨u, T3, b3, b4, h3, e3⟩ := callSign (W := W) hP hS h2
      have e3 := e3 (k + 1)
      have f3 := (tape_own h3).1
      exact ⟨.own s u, T3, ⟨⟨b1, b2⟩, b3, b4⟩, h3, by simp [fnItem, runFn, exs, ex, ev, evs, evA, back, sv, svs, atI, ixN, Tg.bind, ixP, fins, B.asg, S.asg, Tg.asg, deq_int, e1, e2, e3, f0, f1, f2, f3, c0, c1, s3, RIt.d]⟩
theorem rule_go {call : Nat → List D → Rr} {st sd kd : Option D} (hc : ∀ T, Tape T → ∃ i T', RIt.ok i ∧ Tape T' ∧ call it [T] = .ret i.d [T']) : ∀ (items : List D) (T : D) (is : List RIt) (x : Option D), Tape T → is.length + items.length ≤ sizeLine →
    ∃ T' js x', forGo (.nm 5) (exs call W none (lpRule it)) items [some T, st, sd, kd, some (.lst true (is.map RIt.d)), x, none] = .nx [some T', st, sd, kd, some (.lst true ((is ++ js).map RIt.d)), x', none] ∧ Tape T' ∧ js.length = items.length ∧ ∀ j ∈ js, j.ok
  | [], T, is, x, hT, _ => ⟨T, [], x, by simp [forGo], hT, rfl, fun w h => by cases h⟩
  | d :: ds, T, is, x, hT, hl => by
    obtain ⟨r, T1, h1, h2, h3⟩ := hc T hT
    have hl' : is.length + (ds.length + 1) ≤ sizeLine := hl
    obtain ⟨T2, js, x2, h4, h5, h6, h7⟩ := rule_go hc ds T1 (is ++ [r]) (some d) h2 (by rw [List.length_append]; simp; omega)
    refine ⟨T2, r :: js, x2, ?_, h5, by simp [h6], fun w hw => (List.mem_cons.mp hw).elim (fun e => e ▸ h1) (h7 w)⟩
    have f0 := (tape_own hT).1
    have e2 : is.length < sizeLine := by omega
    have e3 : exs call W none (lpRule it) [some T, st, sd, kd, some (.lst true (is.map RIt.d)), some d, none] = .nx [some T1, st, sd, kd, some (.lst true ((is ++ [r]).map RIt.d)), some d, none] := by
      simp [lpRule, runFn, exs, ex, ev, evs, evA, back, sv, svs, atI, ixN, Tg.bind, ixP, fins, B.asg, S.asg, Tg.asg, deq_int, mutD, h3, f0, e2]
    rw [forGo_nm (by simp)]
    show turnO (exs call W none (lpRule it) [some T, st, sd, kd, some (.lst true (is.map RIt.d)), some d, none]) _ = _
    rw [e3]
    show forGo _ _ _ _ = _
    rw [h4, List.append_assoc] <;> rfl
@[simp] theorem asg_lpRule {it} : (lpRule it).asg = [] := rfl
@[simp] theorem asg_lpRules {it} : (lpRules it).asg = [] := rfl
theorem callARule {f : Nat} (hP : P pk = some fnPick) (hS : P sg = some (fnSign pk)) (hR : P sgs = some (fnSigns sg)) (hI : P it = some (fnItem pk sg sgs)) (hF : P f = some (fnARule pk sg it)) {T : D} (hT : Tape T) {m : Int} (m0 : 1 ≤ m) (m1 : m ≤ 100) (k : Nat) :
    ∃ (r : RRu) (T' : D), r.ok ∧ r.its.length ≤ 3 ∧ Tape T' ∧ run P W (k + 5) f [T, .int m] = .ret r.d [T', .int m] := by
  obtain ⟨s, T1, a1, a2, h1, e1⟩ := callPick (W := W) hP hT (z := m) (by omega) (by omega)
  obtain ⟨c, T2, a3, a4, h2, e2⟩ := callPick (W := W) hP h1 (z := 5) (by decide) (by decide)
  obtain ⟨n, T3, a5, a6, h3, e3⟩ := callPick (W := W) hP h2 (z := 4) (by decide) (by decide)
  have e1 := e1 (k + 3)
  have e2 := e2 (k + 3)
  have e3 := e3 (k + 3)
  have f0 := (tape_own hT).1
  have f1 := (tape_own h1).1
  have f2 := (tape_own h2).1
  have f3 := (tape_own h3).1
  have hl : (rngD 0 n).length = n.toNat := by unfold rngD; simp
  have sm := sm62 a5 (by omega)
  obtain ⟨T4, js, x, e4, h4, l4, o4⟩ := rule_go (W := W) (st := some (.int m)) (sd := some (.int s)) (kd := some (.int c)) (fun T hT => callItem (W := W) hP hS hR hI hT k) (rngD 0 n) T3 [] none h3 (by rw [hl, sizeLine_eq]; simp; omega)
  simp only [List.map_nil, List.nil_append] at e4
  have f4 := (tape_own h4).1
  have s4 : (4 : Nat) ≤ sizeLine := by rw [sizeLine_eq]; decide
  have ln : js.length ≤ 3 := by rw [l4, hl]; omega
  rw [run_succ hF]
  by_cases c0 : c = 0
  · subst c0
    refine ⟨⟨s, .fin, js, none⟩, T4, ⟨(⟨a1, by omega⟩ : Sg s), trivial, o4, (by show js.length ≤ 99; omega), rfl⟩, ln, h4, ?_⟩
    simp [fnARule, runFn, exs, ex, ev, evs, evA, back, sv, svs, atI, ixN, Tg.bind, ixP, fins, B.asg, S.asg, Tg.asg, deq_int, evSrc, e1, e2, e3, e4, f0, f1, f2, f3, f4, sm, s4, RRu.d, RWd.d, optD]
  · obtain ⟨u, T5, a7, a8, h5, e5⟩ := callPick (W := W) hP h4 (z := m) (by omega) (by omega)
    have e5 := e5 (k + 3)
    have f5 := (tape_own h5).1
    by_cases c1 : c ≤ 2
    · refine ⟨⟨s, .other, js, some u⟩, T5, ⟨(⟨a1, by omega⟩ : Sg s), trivial, o4, (by show js.length ≤ 99; omega), ⟨⟨a7, by omega⟩, by simp⟩⟩, ln, h5, ?_⟩
      simp [fnARule, runFn, exs, ex, ev, evs, evA, back, sv, svs, atI, ixN, Tg.bind, ixP, fins, B.asg, S.asg, Tg.asg, deq_int, evSrc, e1, e2, e3, e4, e5, f0, f1, f2, f3, f4, f5, sm, c0, c1, s4, RRu.d, RWd.d, optD]
    · obtain ⟨v, T6, a9, a10, h6, e6⟩ := callSign (W := W) hP hS h5
      have e6 := e6 (k + 2)
      have f6 := (tape_own h6).1
      refine ⟨⟨s, .sg v, js, some u⟩, T6, ⟨(⟨a1, by omega⟩ : Sg s), ⟨a9, a10⟩, o4, (by show js.length ≤ 99; omega), ⟨⟨a7, by omega⟩, by simp⟩⟩, ln, h6, ?_⟩
      simp [fnARule, runFn, exs, ex, ev, evs, evA, back, sv, svs, atI, ixN, Tg.bind, ixP, fins, B.asg, S.asg, Tg.asg, deq_int, evSrc, e1, e2, e3, e4, e5, e6, f0, f1, f2, f3, f4, f5, f6, sm, c0, c1, s4, RRu.d, RWd.d, optD]
theorem rules_go {call : Nat → List D → Rr} {mo : Option D} {m : Int} (hc : ∀ T, Tape T → ∃ (r : RRu) (T' : D), r.ok ∧ r.its.length ≤ 3 ∧ Tape T' ∧ call ru [T, .int m] = .ret r.d [T', .int m]) : ∀ (items : List D) (T : D) (is : List RRu) (x : Option D), Tape T → is.length + items.length ≤ sizeLine →
    ∃ T' js x', forGo (.nm 4) (exs call W none (lpRules ru)) items [some T, mo, some (.int m), some (.lst true (is.map RRu.d)), x] = .nx [some T', mo, some (.int m), some (.lst true ((is ++ js).map RRu.d)), x'] ∧ Tape T' ∧ js.length = items.length ∧ ∀ j ∈ js, j.ok ∧ j.its.length ≤ 3
  | [], T, is, x, hT, _ => ⟨T, [], x, by simp [forGo], hT, rfl, fun w h => by cases h⟩
  | d :: ds, T, is, x, hT, hl => by
    obtain ⟨r, T1, h1, h1', h2, h3⟩ := hc T hT
    have hl' : is.length + (ds.length + 1) ≤ sizeLine := hl
    obtain ⟨T2, js, x2, h4, h5, h6, h7⟩ := rules_go hc ds T1 (is ++ [r]) (some d) h2 (by rw [List.length_append]; simp; omega)
    refine ⟨T2, r :: js, x2, ?_, h5, by simp [h6], fun w hw => (List.mem_cons.mp hw).elim (fun e => e ▸ ⟨h1, h1'⟩) (h7 w)⟩
    have f0 := (tape_own hT).1
    have e2 : is.length < sizeLine := by omega
    have e3 : exs call W none (lpRules ru) [some T, mo, some (.int m), some (.lst true (is.map RRu.d)), some d] = .nx [some T1, mo, some (.int m), some (.lst true ((is ++ [r]).map RRu.d)), some d] := by
      simp [lpRules, runFn, exs, ex, ev, evs, evA, back, sv, svs, atI, ixN, Tg.bind, ixP, fins, B.asg, S.asg, Tg.asg, deq_int, mutD, h3, f0, e2]
    rw [forGo_nm (by simp)]
    show turnO (exs call W none (lpRules ru) [some T, mo, some (.int m), some (.lst true (is.map RRu.d)), some d]) _ = _
    rw [e3]
    show forGo _ _ _ _ = _
    rw [h4, List.append_assoc] <;> rfl
theorem callRules {f : Nat} (hP : P pk = some fnPick) (hS : P sg = some (fnSign pk)) (hR : P sgs = some (fnSigns sg)) (hI : P it = some (fnItem pk sg sgs)) (hU : P ru = some (fnARule pk sg it)) (hF : P f = some (fnRules pk ru)) {T : D} (hT : Tape T) {mo : Int} (m0 : 0 ≤ mo) (m1 : mo ≤ 1000) (k : Nat) :
    ∃ (rs : List RRu) (T' : D), (∀ r ∈ rs, r.ok ∧ r.its.length ≤ 3) ∧ (rs.length : Int) ≤ mo ∧ Tape T' ∧ run P W (k + 6) f [T, .int mo] = .ret (.lst true (rs.map RRu.d)) [T', .int mo] := by
  obtain ⟨s, T1, a1, a2, h1, e1⟩ := callPick (W := W) hP hT (z := 4) (by decide) (by decide)
  obtain ⟨c, T2, a3, a4, h2, e2⟩ := callPick (W := W) hP h1 (z := 7) (by decide) (by decide)
  obtain ⟨n, T3, a5, a6, h3, e3⟩ := callPick (W := W) hP h2 (z := mo + 1) (by omega) (by omega)
  have e1 := e1 (k + 4)
  have e2 := e2 (k + 4)
  have e3 := e3 (k + 4)
  have f0 := (tape_own hT).1
  have f1 := (tape_own h1).1
  have f2 := (tape_own h2).1
  have f3 := (tape_own h3).1
  have hl : (rngD 0 n).length = n.toNat := by unfold rngD; simp
  have sm := sm62 a5 (by omega)
  have go : ∀ m : Int, 1 ≤ m → m ≤ 100 → _ := fun m q0 q1 => rules_go (W := W) (mo := some (.int mo)) (m := m) (fun T hT => callARule (W := W) hP hS hR hI hU hT q0 q1 k) (rngD 0 n) T3 [] none h3 (by rw [hl, sizeLine_eq]; simp; omega)
  simp only [List.map_nil, List.nil_append] at go
  rw [run_succ hF]
  by_cases c0 : c = 0
  · obtain ⟨T4, js, x, e4, h4, l4, o4⟩ := go 100 (by decide) (by decide)
    refine ⟨js, T4, o4, by rw [l4, hl]; omega, h4, ?_⟩
    simp [fnRules, runFn, exs, ex, ev, evs, evA, back, sv, svs, atI, ixN, Tg.bind, ixP, fins, B.asg, S.asg, Tg.asg, deq_int, evSrc, e1, e2, e3, e4, f0, f1, f2, f3, sm, c0]
  · obtain ⟨T4, js, x, e4, h4, l4, o4⟩ := go (1 + s) (by omega) (by omega)
    refine ⟨js, T4, o4, by rw [l4, hl]; omega, h4, ?_⟩
    simp [fnRules, runFn, exs, ex, ev, evs, evA, back, sv, svs, atI, ixN, Tg.bind, ixP, fins, B.asg, S.asg, Tg.asg, deq_int, evSrc, e1, e2, e3, e4, f0, f1, f2, f3, sm, c0]
end
/-! ### the law's writing -/
section
variable {call : Nat → List D → Rr} {W : Nat}
theorem iL_app (a b : List Int) : iL a ++ iL b = iL (a ++ b) := (List.map_append).symm
theorem spI_one {s : D} {rs a b c d : Option D} {ws : List Int} {i : RIt} (hi : i.ok) (hl : ws.length + 101 ≤ sizeLine) : exs call W none lpSpI [some s, rs, some (.lst true (iL ws)), a, b, c, d, some i.d] = .nx [some s, rs, some (.lst true (iL (ws ++ spIt i))), a, b, c, d, some i.d] := by
  have l1 : ws.length < sizeLine := by omega
  have l2 : ws.length + 1 < sizeLine := by omega
  have l4 : ws.length + 3 ≤ sizeLine := by omega
  have s3 : (3 : Nat) ≤ sizeLine := by rw [sizeLine_eq]; decide
  have q1 : (("plus" : Str) == ("put" : Str)) = false := by decide
  have q2 : (("own" : Str) == ("put" : Str)) = false := by decide
  have q3 : (("own" : Str) == ("plus" : Str)) = false := by decide
  cases i with
  | put xs =>
    have l3 : ws.length + 1 + 1 + xs.length ≤ sizeLine := by have := hi.2; omega
    simp [lpSpI, runFn, exs, ex, ev, evs, evA, back, sv, svs, atI, ixN, Tg.bind, ixP, fins, B.asg, S.asg, Tg.asg, deq_int, mutD, RIt.d, deq_str, spIt, l1, l2, l3, iL]
  | plus z => simp [lpSpI, runFn, exs, ex, ev, evs, evA, back, sv, svs, atI, ixN, Tg.bind, ixP, fins, B.asg, S.asg, Tg.asg, deq_int, mutD, RIt.d, deq_str, spIt, l1, l2, q1, iL]
  | own y z => simp [lpSpI, runFn, exs, ex, ev, evs, evA, back, sv, svs, atI, ixN, Tg.bind, ixP, fins, B.asg, S.asg, Tg.asg, deq_int, mutD, RIt.d, deq_str, spIt, l4, q2, q3, iL, s3]
theorem spI_go {s : D} {rs a b c d : Option D} : ∀ (is : List RIt) (ws : List Int) (x : Option D), (∀ i ∈ is, i.ok) → ws.length + 101 * is.length ≤ sizeLine →
    ∃ x', forGo (.nm 7) (exs call W none lpSpI) (is.map RIt.d) [some s, rs, some (.lst true (iL ws)), a, b, c, d, x] = .nx [some s, rs, some (.lst true (iL (ws ++ spIts is))), a, b, c, d, x']
  | [], ws, x, _, _ => ⟨x, by simp [forGo, spIts]⟩
  | i :: is, ws, x, h, hl => by
    have h1 := h i List.mem_cons_self
    simp only [List.length_cons] at hl
    have hb := (spIt_len h1).2
    obtain ⟨x', e⟩ := spI_go (s := s) (rs := rs) (a := a) (b := b) (c := c) (d := d) is (ws ++ spIt i) (some i.d) (fun j hj => h j (List.mem_cons_of_mem _ hj)) (by rw [List.length_append]; omega)
    refine ⟨x', ?_⟩
    rw [List.map_cons, forGo_nm (by simp)]
    show turnO (exs call W none lpSpI [some s, rs, some (.lst true (iL ws)), a, b, c, d, some i.d]) _ = _
    rw [spI_one h1 (by omega)]
    show forGo _ _ _ _ = _
    rw [e, List.append_assoc] <;> rfl
@[simp] theorem asg_lpSpI : lpSpI.asg = [] := rfl
@[simp] theorem asg_lpSp : lpSp.asg = [7] := rfl
theorem sp_one {s : D} {rs x : Option D} {ws : List Int} {r : RRu} (hr : r.ok) (hl : ws.length + 11000 ≤ sizeLine) : ∃ x', exs call W none lpSp [some s, rs, some (.lst true (iL ws)), some (.int r.st), some r.wd.d, some (.tup (r.its.map RIt.d)), some (optD r.nx), x] = .nx [some s, rs, some (.lst true (iL (ws ++ spRu r))), some (.int r.st), some r.wd.d, some (.tup (r.its.map RIt.d)), some (optD r.nx), x'] := by
  have q1 : (("end" : Str) == ("other" : Str)) = false := by decide
  have wl : (spWd r.wd).length ≤ 2 := by cases r.wd <;> simp [spWd]
  have il := spIts_len hr.its
  have hlen := hr.len
  have l1 : ws.length < sizeLine := by omega
  have l2 : ws.length + 1 < sizeLine := by omega
  have l3 : ws.length + 1 + 1 < sizeLine := by omega
  have l4 : ws.length + 1 + 1 + 1 < sizeLine := by omega
  obtain ⟨x', go⟩ := spI_go (call := call) (W := W) (s := s) (rs := rs) (a := some (.int r.st)) (b := some r.wd.d) (c := some (.tup (r.its.map RIt.d))) (d := some (optD r.nx)) r.its (ws ++ r.st :: (spWd r.wd ++ [(r.its.length : Int)])) x hr.its (by simp only [List.length_append, List.length_cons, List.length_nil]; omega)
  refine ⟨x', ?_⟩
  have e1 : ws ++ r.st :: (spWd r.wd ++ [(r.its.length : Int)]) ++ spIts r.its = ws ++ r.st :: (spWd r.wd ++ ((r.its.length : Int) :: spIts r.its)) := by simp
  have l5 : (ws ++ r.st :: (spWd r.wd ++ ((r.its.length : Int) :: spIts r.its))).length < sizeLine := by simp only [List.length_append, List.length_cons]; omega
  rw [e1] at go
  simp only [lpSp]
  -- up to the number of the items
  refine exs_step (E1 := [some s, rs, some (.lst true (iL (ws ++ [r.st]))), some (.int r.st), some r.wd.d, some (.tup (r.its.map RIt.d)), some (optD r.nx), x]) (by simp [runFn, exs, ex, ev, evs, evA, back, sv, svs, atI, ixN, Tg.bind, ixP, fins, B.asg, S.asg, Tg.asg, deq_int, mutD, l1, iL]) ?_
  refine exs_step (E1 := [some s, rs, some (.lst true (iL (ws ++ r.st :: spWd r.wd))), some (.int r.st), some r.wd.d, some (.tup (r.its.map RIt.d)), some (optD r.nx), x]) (by cases r.wd <;> simp [runFn, exs, ex, ev, evs, evA, back, sv, svs, atI, ixN, Tg.bind, ixP, fins, B.asg, S.asg, Tg.asg, deq_int, mutD, l1, l2, l3, iL, RWd.d, spWd, deq_str, q1]) ?_
  have l6 : (ws ++ r.st :: spWd r.wd).length < sizeLine := by simp only [List.length_append, List.length_cons]; omega
  have l6' : (iL (ws ++ r.st :: spWd r.wd)).length < sizeLine := by rw [List.length_map]; exact l6
  have e2 : iL (ws ++ r.st :: spWd r.wd) ++ [.int (r.its.length : Int)] = iL (ws ++ r.st :: (spWd r.wd ++ [(r.its.length : Int)])) := by simp [iL]
  refine exs_step (E1 := [some s, rs, some (.lst true (iL (ws ++ r.st :: (spWd r.wd ++ [(r.its.length : Int)])))), some (.int r.st), some r.wd.d, some (.tup (r.its.map RIt.d)), some (optD r.nx), x]) ?_ ?_
  · rw [← e2]
    generalize iL (ws ++ r.st :: spWd r.wd) = L at l6' ⊢
    simp [runFn, exs, ex, ev, evs, evA, back, sv, svs, atI, ixN, Tg.bind, ixP, fins, B.asg, S.asg, Tg.asg, deq_int, mutD, l6']
  generalize iL (ws ++ r.st :: (spWd r.wd ++ [(r.its.length : Int)])) = L1 at go ⊢
  refine exs_step (E1 := [some s, rs, some (.lst true (iL (ws ++ r.st :: (spWd r.wd ++ ((r.its.length : Int) :: spIts r.its))))), some (.int r.st), some r.wd.d, some (.tup (r.its.map RIt.d)), some (optD r.nx), x']) ?_ ?_
  · rw [← go]
    simp [runFn, exs, ex, ev, evs, evA, back, sv, svs, atI, ixN, Tg.bind, ixP, fins, B.asg, S.asg, Tg.asg, deq_int, evSrc]
  have l5' : (iL (ws ++ r.st :: (spWd r.wd ++ ((r.its.length : Int) :: spIts r.its)))).length < sizeLine := by rw [List.length_map]; exact l5
  have e3 : iL (ws ++ spRu r) = iL (ws ++ r.st :: (spWd r.wd ++ ((r.its.length : Int) :: spIts r.its))) ++ iL (spOp r.nx) := by
    rw [iL_app]
    simp [spRu]
  rw [e3]
  generalize iL (ws ++ r.st :: (spWd r.wd ++ ((r.its.length : Int) :: spIts r.its))) = L2 at l5' ⊢
  cases r.nx <;> simp [runFn, exs, ex, ev, evs, evA, back, sv, svs, atI, ixN, Tg.bind, ixP, fins, B.asg, S.asg, Tg.asg, deq_int, mutD, l5', optD, spOp, iL]
theorem sp_go {s : D} {rs : Option D} : ∀ (us : List RRu) (ws : List Int) (a b c d x : Option D), (∀ r ∈ us, r.ok) → ws.length + 11000 * us.length ≤ sizeLine →
    ∃ a' b' c' d' x', forGo (.tup [3, 4, 5, 6]) (exs call W none lpSp) (us.map RRu.d) [some s, rs, some (.lst true (iL ws)), a, b, c, d, x] = .nx [some s, rs, some (.lst true (iL (ws ++ spRus us))), a', b', c', d', x']
  | [], ws, a, b, c, d, x, _, _ => ⟨a, b, c, d, x, by simp [forGo, spRus]⟩
  | r :: us, ws, a, b, c, d, x, h, hl => by
    have h1 := h r List.mem_cons_self
    simp only [List.length_cons] at hl
    have hb := spRu_len h1 99 h1.len
    obtain ⟨x1, e1⟩ := sp_one (call := call) (W := W) (s := s) (rs := rs) (x := x) (ws := ws) h1 (by omega)
    obtain ⟨a', b', c', d', x', e⟩ := sp_go (s := s) (rs := rs) us (ws ++ spRu r) (some (.int r.st)) (some r.wd.d) (some (.tup (r.its.map RIt.d))) (some (optD r.nx)) x1 (fun j hj => h j (List.mem_cons_of_mem _ hj)) (by rw [List.length_append]; omega)
    refine ⟨a', b', c', d', x', ?_⟩
    rw [List.map_cons, forGo_cons]
    have eb : Tg.bind (.tup [3, 4, 5, 6]) r.d [some s, rs, some (.lst true (iL ws)), a, b, c, d, x] = some [some s, rs, some (.lst true (iL ws)), some (.int r.st), some r.wd.d, some (.tup (r.its.map RIt.d)), some (optD r.nx), x] := rfl
    rw [eb]
    show turnO (exs call W none lpSp _) _ = _
    rw [e1]
    show forGo _ _ _ _ = _
    rw [e, List.append_assoc] <;> rfl
end
theorem callSpell {P : Nat → Option Fn} {W f : Nat} (hF : P f = some fnSpell) {s : Int} {us : List RRu} (h : ∀ r ∈ us, r.ok) (hl : us.length ≤ 1000) (k : Nat) : run P W (k + 1) f [.int s, .lst false (us.map RRu.d)] = .ret (.lst true (iL (s :: spRus us))) [.int s, .lst false (us.map RRu.d)] := by
  rw [run_succ hF]
  obtain ⟨a', b', c', d', x', e⟩ := sp_go (call := run P W k) (W := W) (s := .int s) (rs := some (.lst false (us.map RRu.d))) us [s] none none none none none h (by rw [sizeLine_eq]; simp; omega)
  have e1 : ([s] ++ spRus us : List Int) = s :: spRus us := rfl
  rw [e1] at e
  have e0 : iL [s] = [D.int s] := rfl
  rw [e0] at e
  have s1 := sz1
  generalize iL (s :: spRus us) = L at e ⊢
  generalize us.map RRu.d = R at e ⊢
  simp [fnSpell, runFn, exs, ex, ev, evs, evA, back, sv, svs, atI, ixN, Tg.bind, ixP, fins, B.asg, S.asg, Tg.asg, deq_int, evSrc, e, s1]
end VM

namespace VM
open PySem L2
/-! ### a row, read as rules -/
def gw (ws : List Int) (i : Nat) : Int := ws.getD i 0
def rdIt (ws : List Int) (p : Nat) : Option (RIt × Nat) :=
  if p + 1 < ws.length then
    if gw ws p = 0 then (if ws.length < p + 2 + (gw ws (p + 1)).toNat then none else some (.put ((ws.drop (p + 2)).take (gw ws (p + 1)).toNat), p + 2 + (gw ws (p + 1)).toNat))
    else if gw ws p = 1 then some (.plus (gw ws (p + 1)), p + 2)
    else if gw ws p = 2 ∧ p + 2 < ws.length then some (.own (gw ws (p + 1)) (gw ws (p + 2)), p + 3)
    else none
  else none
def rdIts (ws : List Int) : Nat → Nat → Option (List RIt × Nat)
  | 0, p => some ([], p)
  | n + 1, p => match rdIt ws p with
    | none => none
    | some (i, q) => match rdIts ws n q with
      | none => none
      | some (is, e) => some (i :: is, e)
def rdWd (ws : List Int) (p : Nat) : Option (RWd × Nat) :=
  if p < ws.length then
    if gw ws p = 1 then some (.other, p + 1)
    else if gw ws p = 2 then some (.fin, p + 1)
    else if gw ws p = 0 ∧ p + 1 < ws.length then some (.sg (gw ws (p + 1)), p + 2)
    else none
  else none
def RWd.isFin : RWd → Bool
  | .fin => true
  | _ => false
def rdRu (ws : List Int) (p : Nat) : Option (RRu × Nat) := match rdWd ws (p + 1) with
  | none => none
  | some (w, q) => if q < ws.length then (match rdIts ws (gw ws q).toNat (q + 1) with
    | none => none
    | some (is, e) => if w.isFin = true then some (⟨gw ws p, w, is, none⟩, e) else if e < ws.length then some (⟨gw ws p, w, is, some (gw ws e)⟩, e + 1) else none) else none
def rds (ws : List Int) : Nat → Nat → List RRu × Nat
  | 0, p => ([], p)
  | n + 1, p => if p < ws.length then (match rdRu ws p with
    | none => ([], p)
    | some (r, q) => (r :: (rds ws n q).1, (rds ws n q).2)) else ([], p)
def rdAll (ws : List Int) : List RRu × Nat := if ws.length = 0 then ([], 0) else rds ws ws.length 1
/-! what is read is what stands there -/
theorem drop_gw {ws : List Int} {p : Nat} (h : p < ws.length) : ws.drop p = gw ws p :: ws.drop (p + 1) := by
  rw [List.drop_eq_getElem_cons h]
  simp [gw, List.getD, h]
theorem gw_mem {ws : List Int} {p : Nat} (h : p < ws.length) : gw ws p ∈ ws := by
  have : gw ws p = ws[p] := by simp [gw, List.getD, h]
  rw [this]
  exact List.getElem_mem h
theorem Sgs.gw {ws : List Int} (s : Sgs ws) {p : Nat} (h : p < ws.length) : Sg (gw ws p) := s _ (gw_mem h)
theorem rdIt_spec {ws : List Int} (s : Sgs ws) {p q : Nat} {i : RIt} (h : rdIt ws p = some (i, q)) : i.ok ∧ ws.drop p = spIt i ++ ws.drop q ∧ p + 2 ≤ q ∧ q ≤ ws.length := by
  unfold rdIt at h
  split at h
  · rename_i hp
    have e0 : ws.drop p = gw ws p :: gw ws (p + 1) :: ws.drop (p + 2) := by rw [drop_gw (by omega), drop_gw hp]
    split at h
    · rename_i c0
      split at h
      · cases h
      · rename_i hb
        cases h
        have z := s.gw hp
        refine ⟨⟨fun w hw => s w (List.mem_of_mem_drop (List.mem_of_mem_take hw)), ?_⟩, ?_, by omega, by omega⟩
        · rw [List.length_take]
          have := z.2
          omega
        · have hl : ((ws.drop (p + 2)).take (gw ws (p + 1)).toNat).length = (gw ws (p + 1)).toNat := by
            rw [List.length_take, List.length_drop]
            omega
          rw [e0, c0]
          show _ = 0 :: (((ws.drop (p + 2)).take (gw ws (p + 1)).toNat).length : Int) :: ((ws.drop (p + 2)).take (gw ws (p + 1)).toNat ++ ws.drop (p + 2 + (gw ws (p + 1)).toNat))
          have e3 : ws.drop (p + 2) = (ws.drop (p + 2)).take (gw ws (p + 1)).toNat ++ ws.drop (p + 2 + (gw ws (p + 1)).toNat) := by
            rw [← List.drop_drop (i := (gw ws (p + 1)).toNat)]
            exact (List.take_append_drop _ _).symm
          rw [hl, ← e3, Int.toNat_of_nonneg z.1]
    · split at h
      · rename_i c1
        cases h
        exact ⟨s.gw hp, by rw [e0, c1] <;> rfl, by omega, by omega⟩
      · split at h
        · rename_i c2
          cases h
          refine ⟨⟨s.gw hp, s.gw c2.2⟩, ?_, by omega, by omega⟩
          rw [e0, c2.1, drop_gw c2.2] <;> rfl
        · cases h
  · cases h
theorem rdIts_spec {ws : List Int} (s : Sgs ws) : ∀ {n p q : Nat} {is : List RIt}, p ≤ ws.length → rdIts ws n p = some (is, q) → (∀ i ∈ is, i.ok) ∧ is.length = n ∧ ws.drop p = spIts is ++ ws.drop q ∧ p ≤ q ∧ q ≤ ws.length
  | 0, p, q, is, hp, h => by
    cases h
    exact ⟨fun i hi => (List.not_mem_nil hi).elim, rfl, rfl, Nat.le_refl _, hp⟩
  | n + 1, p, q, is, hp, h => by
    unfold rdIts at h
    split at h
    · cases h
    · rename_i i m e1
      split at h
      · cases h
      · rename_i js e e2
        cases h
        obtain ⟨a1, a2, a3, a4⟩ := rdIt_spec s e1
        obtain ⟨b1, b2, b3, b4, b5⟩ := rdIts_spec s a4 e2
        refine ⟨fun j hj => (List.mem_cons.mp hj).elim (fun e => e ▸ a1) (b1 j), by rw [List.length_cons, b2], ?_, by omega, b5⟩
        rw [a2, b3, ← List.append_assoc] <;> rfl
theorem rdWd_spec {ws : List Int} (s : Sgs ws) {p q : Nat} {w : RWd} (h : rdWd ws p = some (w, q)) : w.ok ∧ ws.drop p = spWd w ++ ws.drop q ∧ p + 1 ≤ q ∧ q ≤ ws.length := by
  unfold rdWd at h
  split at h
  · rename_i hp
    split at h
    · rename_i c
      cases h
      exact ⟨trivial, by rw [drop_gw hp, c] <;> rfl, by omega, by omega⟩
    · split at h
      · rename_i c
        cases h
        exact ⟨trivial, by rw [drop_gw hp, c] <;> rfl, by omega, by omega⟩
      · split at h
        · rename_i c
          cases h
          exact ⟨s.gw c.2, by rw [drop_gw hp, drop_gw c.2, c.1] <;> rfl, by omega, by omega⟩
        · cases h
  · cases h
theorem rdRu_spec {ws : List Int} (s : Sgs ws) {p q : Nat} {r : RRu} (hp : p < ws.length) (h : rdRu ws p = some (r, q)) : r.ok ∧ ws.drop p = spRu r ++ ws.drop q ∧ p + 3 ≤ q ∧ q ≤ ws.length := by
  unfold rdRu at h
  split at h
  · cases h
  · rename_i w m e1
    obtain ⟨a1, a2, a3, a4⟩ := rdWd_spec s e1
    split at h
    · rename_i hm
      split at h
      · cases h
      · rename_i is e e2
        obtain ⟨b1, b2, b3, b4, b5⟩ := rdIts_spec s (by omega) e2
        have z := s.gw hm
        have hn : ((is.length : Nat) : Int) = gw ws m := by rw [b2, Int.toNat_of_nonneg z.1]
        have hl : is.length ≤ 99 := by have := z.2; omega
        have e0 : ws.drop p = gw ws p :: (spWd w ++ gw ws m :: (spIts is ++ ws.drop e)) := by rw [drop_gw hp, a2, drop_gw hm, b3]
        split at h
        · rename_i hw
          cases h
          have hw : w = .fin := by cases w <;> first | rfl | cases hw
          refine ⟨⟨s.gw hp, a1, b1, hl, hw⟩, ?_, by omega, b5⟩
          rw [e0]
          show _ = gw ws p :: (spWd w ++ ((is.length : Nat) : Int) :: (spIts is ++ [])) ++ _
          rw [hn, List.append_nil]
          simp
        · rename_i hw
          split at h
          · rename_i he
            cases h
            have hw : w ≠ .fin := fun e => by subst e; exact hw rfl
            refine ⟨⟨s.gw hp, a1, b1, hl, ⟨s.gw he, hw⟩⟩, ?_, by omega, by omega⟩
            rw [e0, drop_gw he]
            show _ = gw ws p :: (spWd w ++ ((is.length : Nat) : Int) :: (spIts is ++ [gw ws e])) ++ _
            rw [hn]
            simp
          · cases h
    · cases h
theorem rds_spec {ws : List Int} (s : Sgs ws) : ∀ {n p : Nat}, p ≤ ws.length → (∀ r ∈ (rds ws n p).1, r.ok) ∧ ws.drop p = spRus (rds ws n p).1 ++ ws.drop (rds ws n p).2 ∧ (rds ws n p).1.length ≤ n ∧ p ≤ (rds ws n p).2 ∧ (rds ws n p).2 ≤ ws.length
  | 0, p, hp => ⟨fun r h => (List.not_mem_nil h).elim, by simp [rds, spRus], by simp [rds], Nat.le_refl _, hp⟩
  | n + 1, p, hp => by
    have base : (∀ r ∈ ([] : List RRu), r.ok) ∧ ws.drop p = spRus [] ++ ws.drop p ∧ ([] : List RRu).length ≤ n + 1 ∧ p ≤ p ∧ p ≤ ws.length := ⟨fun r h => (List.not_mem_nil h).elim, rfl, Nat.zero_le _, Nat.le_refl _, hp⟩
    unfold rds
    split
    · rename_i hlt
      split
      · exact base
      · rename_i r q e
        obtain ⟨a1, a2, a3, a4⟩ := rdRu_spec s hlt e
        obtain ⟨b1, b2, b3, b4, b5⟩ := rds_spec s (n := n) a4
        refine ⟨fun j hj => (List.mem_cons.mp hj).elim (fun e => e ▸ a1) (b1 j), ?_, by simpa using b3, by omega, b5⟩
        show _ = (spRu r ++ spRus (rds ws n q).1) ++ ws.drop (rds ws n q).2
        rw [a2, List.append_assoc, ← b2]
    · exact base
/-- enough turns -/
theorem rds_fuel {ws : List Int} (s : Sgs ws) : ∀ {n m p : Nat}, ws.length - p ≤ n → ws.length - p ≤ m → rds ws n p = rds ws m p
  | 0, 0, p, _, _ => rfl
  | 0, m + 1, p, h, _ => by
    have : ¬ p < ws.length := by omega
    simp [rds, this]
  | n + 1, 0, p, _, h => by
    have : ¬ p < ws.length := by omega
    simp [rds, this]
  | n + 1, m + 1, p, h, k => by
    unfold rds
    split
    · rename_i hlt
      split
      · rfl
      · rename_i r q e
        have := (rdRu_spec s hlt e).2.2.1
        rw [rds_fuel s (n := n) (m := m) (p := q) (by omega) (by omega)]
    · rfl
theorem rdAll_spec {ws : List Int} (s : Sgs ws) : (∀ r ∈ (rdAll ws).1, r.ok) ∧ (spRus (rdAll ws).1).length ≤ ws.length ∧ (rdAll ws).1.length ≤ ws.length ∧ (rdAll ws).2 ≤ ws.length := by
  unfold rdAll
  split
  · exact ⟨fun r h => (List.not_mem_nil h).elim, by simp [spRus], Nat.zero_le _, Nat.zero_le _⟩
  · rename_i h
    obtain ⟨a1, a2, a3, a4, a5⟩ := rds_spec s (n := ws.length) (p := 1) (by omega)
    refine ⟨a1, ?_, a3, a5⟩
    have := congrArg List.length a2
    simp only [List.length_append, List.length_drop] at this
    omega
/-! ### what is read is small -/
theorem smL2 {n : Nat} (f : D → Nat) : ∀ {ds : List D}, (∀ d ∈ ds, Sm d n (f d)) → fzL ds = true ∧ frzL ds = ds ∧ ∃ ps, D.py.pyL ds = some ps ∧ PyData.depthAll ps ≤ n ∧ PyData.showableAll ps = true ∧ PyData.leavesShortAll 30 ps = true ∧ PyData.weightAll ps ≤ (ds.map f).sum + ds.length ∧ psameL ps ps = true
  | [], _ => ⟨rfl, rfl, [], rfl, Nat.zero_le _, rfl, rfl, Nat.zero_le _, rfl⟩
  | d :: ds, h => by
    obtain ⟨a, b, p, c1, c2, c3, c4, c5, c6⟩ := h d List.mem_cons_self
    obtain ⟨a', b', ps, d1, d2, d3, d4, d5, d6⟩ := smL2 f fun e he => h e (List.mem_cons_of_mem _ he)
    refine ⟨by simp [a, a'], by simp [b, b'], p :: ps, ?_, ?_, ?_, ?_, ?_, ?_⟩
    · show (match d.py, D.py.pyL ds with | some a, some b => some (a :: b) | _, _ => none) = _
      rw [c1, d1]
    · simp only [PyData.depthAll]; omega
    · simp [PyData.showableAll, c3, d3]
    · simp [PyData.leavesShortAll, c4, d4]
    · simp only [PyData.weightAll, List.length_cons, List.map_cons, List.sum_cons]
      omega
    · simp [psameL, c6, d6]
theorem Sm.tupW {n : Nat} (f : D → Nat) {ds : List D} (h : ∀ d ∈ ds, Sm d n (f d)) : Sm (.tup ds) (n + 1) ((ds.map f).sum + ds.length) := by
  obtain ⟨a, b, ps, c1, c2, c3, c4, c5, c6⟩ := smL2 f h
  refine ⟨rfl, rfl, .tuple ps, ?_, ?_, ?_, ?_, ?_, ?_⟩
  · show (D.py.pyL ds).map PyData.tuple = _
    rw [c1] <;> rfl
  · simp only [PyData.depth]; omega
  · simpa [PyData.showable] using c3
  · simpa [PyData.leavesShort] using c4
  · simpa [PyData.weight] using c5
  · simpa [psame] using c6
theorem Sm.lstW {n : Nat} (f : D → Nat) {ds : List D} (h : ∀ d ∈ ds, Sm d n (f d)) : Sm (.lst false ds) (n + 1) ((ds.map f).sum + ds.length) := by
  obtain ⟨a, b, ps, c1, c2, c3, c4, c5, c6⟩ := smL2 f h
  refine ⟨rfl, by rw [frz_lst, b], .list ps, ?_, ?_, ?_, ?_, ?_, ?_⟩
  · show (D.py.pyL ds).map PyData.list = _
    rw [c1] <;> rfl
  · simp only [PyData.depth]; omega
  · simpa [PyData.showable] using c3
  · simpa [PyData.leavesShort] using c4
  · simpa [PyData.weight] using c5
  · simpa [psame] using c6
theorem Sg.sm {a : Int} (h : Sg a) : Sm (.int a) 0 10 := by
  have hb : a.natAbs ≤ 100 := by have := h.1; have := h.2; omega
  obtain ⟨x1, x2, p, c1, c2, c3, c4, c5, c6⟩ := Sm.int (i := a) (Nat.lt_of_le_of_lt hb (by decide))
  have e : p = .int a := (Option.some.inj ((show (D.int a).py = some (.int a) from rfl).symm.trans c1)).symm
  subst e
  refine ⟨x1, x2, _, c1, c2, c3, c4, ?_, c6⟩
  simp only [PyData.weight]
  split
  · omega
  · rename_i hi
    have h0 : a.natAbs ≠ 0 := fun e => hi (by simpa using e)
    have := (Nat.log2_lt h0).mpr (show a.natAbs < 2 ^ 9 by omega)
    omega
theorem all4 {p : D → Prop} {x d e f : D} (h1 : p x) (h2 : p d) (h3 : p e) (h4 : p f) : ∀ y ∈ [x, d, e, f], p y := fun y hy => by
  simp only [List.mem_cons, List.not_mem_nil, or_false] at hy
  rcases hy with rfl | rfl | rfl | rfl
  · exact h1
  · exact h2
  · exact h3
  · exact h4
theorem strw (x : Str) (h : x.length ≤ 10 := by decide) (hc : (x.cps.toList.all fun c => decide (c < 16 ^ 8)) = true := by decide) : Sm (.str x) 0 10 := ⟨rfl, rfl, .str x, rfl, Nat.le_refl _, rfl, hc, h, by simp [psame]⟩
theorem Sgs.sm {ws : List Int} (h : Sgs ws) : ∀ d ∈ iL ws, Sm d 0 10 := fun d hd => by
  obtain ⟨w, hw, rfl⟩ := List.mem_map.mp hd
  exact (h w hw).sm
theorem RIt.sm {i : RIt} (h : i.ok) : Sm i.d 2 (13 * (spIt i).length - 1) := by
  cases i with
  | put xs =>
    have e : (iL xs).length = xs.length := List.length_map _
    have h1 : Sm (.tup (iL xs)) 1 (xs.length * 11) := by
      have := Sm.tup h.1.sm
      rw [e] at this
      exact this
    refine (Sm.tupW (n := 1) (fun d => match d with | .str _ => 10 | _ => xs.length * 11) (all2 ((strw _).mono (by decide) (Nat.le_refl _)) h1)).mono (by decide) ?_
    simp [spIt]
    omega
  | plus a =>
    refine (Sm.tup (n := 0) (w := 10) (all2 (strw _) (Sg.sm h))).mono (by decide) ?_
    simp [spIt]
  | own a b =>
    refine (Sm.tup (n := 0) (w := 10) (all3 (strw _) (Sg.sm h.1) (Sg.sm h.2))).mono (by decide) ?_
    simp [spIt]
def wtIts : List RIt → Nat
  | [] => 0
  | i :: is => (13 * (spIt i).length - 1) + wtIts is
theorem smLW {α : Type} {g : α → D} {n : Nat} {f : α → Nat} : ∀ {xs : List α}, (∀ x ∈ xs, Sm (g x) n (f x)) → fzL (xs.map g) = true ∧ frzL (xs.map g) = xs.map g ∧ ∃ ps, D.py.pyL (xs.map g) = some ps ∧ PyData.depthAll ps ≤ n ∧ PyData.showableAll ps = true ∧ PyData.leavesShortAll 30 ps = true ∧ PyData.weightAll ps ≤ (xs.map fun x => f x + 1).sum ∧ psameL ps ps = true
  | [], _ => ⟨rfl, rfl, [], rfl, Nat.zero_le _, rfl, rfl, Nat.zero_le _, rfl⟩
  | x :: ds, h => by
    obtain ⟨a, b, p, c1, c2, c3, c4, c5, c6⟩ := h x List.mem_cons_self
    obtain ⟨a', b', ps, d1, d2, d3, d4, d5, d6⟩ := smLW (g := g) (f := f) fun e he => h e (List.mem_cons_of_mem _ he)
    refine ⟨by simp [a, a'], by simp [b, b'], p :: ps, ?_, ?_, ?_, ?_, ?_, ?_⟩
    · show (match (g x).py, D.py.pyL (ds.map g) with | some a, some b => some (a :: b) | _, _ => none) = _
      rw [c1, d1]
    · simp only [PyData.depthAll]; omega
    · simp [PyData.showableAll, c3, d3]
    · simp [PyData.leavesShortAll, c4, d4]
    · simp only [PyData.weightAll, List.map_cons, List.sum_cons]
      omega
    · simp [psameL, c6, d6]
theorem Sm.tupM {α : Type} {g : α → D} {n : Nat} {f : α → Nat} {xs : List α} (h : ∀ x ∈ xs, Sm (g x) n (f x)) {w : Nat} (hw : (xs.map fun x => f x + 1).sum ≤ w) : Sm (.tup (xs.map g)) (n + 1) w := by
  obtain ⟨a, b, ps, c1, c2, c3, c4, c5, c6⟩ := smLW h
  refine ⟨rfl, rfl, .tuple ps, ?_, ?_, ?_, ?_, ?_, ?_⟩
  · show (D.py.pyL (xs.map g)).map PyData.tuple = _
    rw [c1] <;> rfl
  · simp only [PyData.depth]; omega
  · simpa [PyData.showable] using c3
  · simpa [PyData.leavesShort] using c4
  · simp only [PyData.weight]; omega
  · simpa [psame] using c6
theorem its_sum : ∀ is : List RIt, (∀ i ∈ is, i.ok) → (is.map fun i => (13 * (spIt i).length - 1) + 1).sum = 13 * (spIts is).length
  | [], _ => rfl
  | i :: is, h => by
    have h1 := (spIt_len (h i List.mem_cons_self)).1
    have h2 := its_sum is fun j hj => h j (List.mem_cons_of_mem _ hj)
    simp only [List.map_cons, List.sum_cons, spIts, List.flatMap_cons, List.length_append] at h2 ⊢
    rw [h2]
    omega
theorem RRu.sm {r : RRu} (h : r.ok) : Sm r.d 4 (13 * (spRu r).length - 1) := by
  have h1 : Sm (.tup (r.its.map RIt.d)) 3 (13 * (spIts r.its).length) := Sm.tupM (fun i hi => RIt.sm (h.its i hi)) (Nat.le_of_eq (its_sum _ h.its))
  have h2 : Sm r.wd.d 0 10 := by
    have := h.wd
    cases e : r.wd with
    | sg a => rw [e] at this; exact Sg.sm this
    | other => exact strw _
    | fin => exact strw _
  have h3 : Sm (optD r.nx) 0 10 := by
    have := h.nx
    cases e : r.nx with
    | none => exact Sm.non.mono (by decide) (by decide)
    | some a => rw [e] at this; exact Sg.sm this.1
  have hl : 3 + (spIts r.its).length ≤ (spRu r).length := by
    have : 1 ≤ (spWd r.wd).length := by cases r.wd <;> simp [spWd]
    simp only [spRu, List.length_cons, List.length_append]
    omega
  have k2 := Sm.tupW (n := 3) (fun d => match d with | .tup _ => 13 * (spIts r.its).length | _ => 10) (ds := [.int r.st, r.wd.d, .tup (r.its.map RIt.d), optD r.nx])
    (all4 ((Sg.sm h.st).mono (by decide) (Nat.le_refl _)) (by cases e : r.wd <;> rw [e] at h2 <;> exact h2.mono (by decide) (Nat.le_refl _)) h1 (by cases e : r.nx <;> rw [e] at h3 <;> exact h3.mono (by decide) (Nat.le_refl _)))
  refine k2.mono (by decide) ?_
  have e1 : ∀ w : RWd, (match w.d with | .tup _ => 13 * (spIts r.its).length | _ => 10) = 10 := fun w => by cases w <;> rfl
  have e2 : ∀ w : Option Int, (match optD w with | .tup _ => 13 * (spIts r.its).length | _ => 10) = 10 := fun w => by cases w <;> rfl
  simp only [List.map_cons, List.map_nil, List.sum_cons, List.sum_nil, List.length_cons, List.length_nil, e1, e2]
  omega
theorem rus_sum : ∀ is : List RRu, (∀ i ∈ is, i.ok) → (is.map fun i => (13 * (spRu i).length - 1) + 1).sum = 13 * (spRus is).length
  | [], _ => rfl
  | i :: is, h => by
    have h1 : 1 ≤ (spRu i).length := by simp [spRu]
    have h2 := rus_sum is fun j hj => h j (List.mem_cons_of_mem _ hj)
    simp only [List.map_cons, List.sum_cons, spRus, List.flatMap_cons, List.length_append] at h2 ⊢
    rw [h2]
    omega
theorem rus_sm {rs : List RRu} (h : ∀ r ∈ rs, r.ok) : Sm (.tup (rs.map RRu.d)) 5 (13 * (spRus rs).length) := Sm.tupM (fun i hi => RRu.sm (h i hi)) (Nat.le_of_eq (rus_sum _ h))
theorem rus_all {rs : List RRu} (h : ∀ r ∈ rs, r.ok) : ∀ d ∈ rs.map RRu.d, Sm d 4 2000000 := fun d hd => by
  obtain ⟨r, hr, rfl⟩ := List.mem_map.mp hd
  have := spRu_len (h r hr) 99 (h r hr).len
  exact (RRu.sm (h r hr)).mono (by decide) (by omega)
end VM

namespace VM
open PySem L2
def fnItemAt : Fn := ⟨2, 3, (.cons (.ifs (.sx (.op .ge (.cons (.aop .add (.cons (.var 1) (.cons (.cst (.int 1)) .nil))) (.cons (.op .len (.cons (.var 0) .nil)) .nil)))) (.cons (.ret (.sx (.cst .non))) .nil) .nil) (.cons (.ifs (.sx (.op .eq (.cons (.op .idx (.cons (.var 0) (.cons (.var 1) .nil))) (.cons (.cst (.int 0)) .nil)))) (.cons (.set (.nm 2) (.new .add (.cons (.aop .add (.cons (.var 1) (.cons (.cst (.int 2)) .nil))) (.cons (.op .idx (.cons (.var 0) (.cons (.aop .add (.cons (.var 1) (.cons (.cst (.int 1)) .nil))) .nil))) .nil)))) (.cons (.ifs (.sx (.op .gt (.cons (.var 2) (.cons (.op .len (.cons (.var 0) .nil)) .nil)))) (.cons (.ret (.sx (.cst .non))) .nil) .nil) (.cons (.ret (.sx (.tup (.cons (.tup (.cons (.cst (.str "put")) (.cons (.aop (.cut true true) (.cons (.var 0) (.cons (.aop .add (.cons (.var 1) (.cons (.cst (.int 2)) .nil))) (.cons (.var 2) .nil)))) .nil))) (.cons (.var 2) .nil))))) .nil))) .nil) (.cons (.ifs (.sx (.op .eq (.cons (.op .idx (.cons (.var 0) (.cons (.var 1) .nil))) (.cons (.cst (.int 1)) .nil)))) (.cons (.ret (.sx (.tup (.cons (.tup (.cons (.cst (.str "plus")) (.cons (.op .idx (.cons (.var 0) (.cons (.aop .add (.cons (.var 1) (.cons (.cst (.int 1)) .nil))) .nil))) .nil))) (.cons (.aop .add (.cons (.var 1) (.cons (.cst (.int 2)) .nil))) .nil))))) .nil) .nil) (.cons (.ifs (.sx (.and (.op .eq (.cons (.op .idx (.cons (.var 0) (.cons (.var 1) .nil))) (.cons (.cst (.int 2)) .nil))) (.op .lt (.cons (.aop .add (.cons (.var 1) (.cons (.cst (.int 2)) .nil))) (.cons (.op .len (.cons (.var 0) .nil)) .nil))))) (.cons (.ret (.sx (.tup (.cons (.tup (.cons (.cst (.str "own")) (.cons (.op .idx (.cons (.var 0) (.cons (.aop .add (.cons (.var 1) (.cons (.cst (.int 1)) .nil))) .nil))) (.cons (.op .idx (.cons (.var 0) (.cons (.aop .add (.cons (.var 1) (.cons (.cst (.int 2)) .nil))) .nil))) .nil)))) (.cons (.aop .add (.cons (.var 1) (.cons (.cst (.int 3)) .nil))) .nil))))) .nil) .nil) (.cons (.ret (.sx (.cst .non))) .nil)))))⟩
def lpIts (ia : Nat) : B := (.cons (.set (.nm 5) (.call ia (.nm 0 (.nm 3 .nil)))) (.cons (.ifs (.sx (.op .isN (.cons (.var 5) .nil))) (.cons (.ret (.sx (.cst .non))) .nil) .nil) (.cons (.expr (.mut .append 2 (.cons (.sx (.op .idx (.cons (.var 5) (.cons (.cst (.int 0)) .nil)))) .nil))) (.cons (.set (.nm 3) (.sx (.op .idx (.cons (.var 5) (.cons (.cst (.int 1)) .nil))))) .nil))))
def fnItemsAt (ia : Nat) : Fn := ⟨2, 6, (.cons (.ifs (.sx (.op .ge (.cons (.var 1) (.cons (.op .len (.cons (.var 0) .nil)) .nil)))) (.cons (.ret (.sx (.cst .non))) .nil) .nil) (.cons (.set (.nm 2) (.lst .nil)) (.cons (.set (.nm 3) (.new .add (.cons (.var 1) (.cons (.cst (.int 1)) .nil)))) (.cons (.fors (.nm 4) (.rng1 (.op .idx (.cons (.var 0) (.cons (.var 1) .nil)))) (lpIts ia)) (.cons (.ret (.sx (.tup (.cons (.aop .tupOf (.cons (.var 2) .nil)) (.cons (.var 3) .nil))))) .nil)))))⟩
def fnWordAt : Fn := ⟨2, 2, (.cons (.ifs (.sx (.op .ge (.cons (.var 1) (.cons (.op .len (.cons (.var 0) .nil)) .nil)))) (.cons (.ret (.sx (.cst .non))) .nil) .nil) (.cons (.ifs (.sx (.op .eq (.cons (.op .idx (.cons (.var 0) (.cons (.var 1) .nil))) (.cons (.cst (.int 1)) .nil)))) (.cons (.ret (.sx (.tup (.cons (.cst (.str "other")) (.cons (.aop .add (.cons (.var 1) (.cons (.cst (.int 1)) .nil))) .nil))))) .nil) .nil) (.cons (.ifs (.sx (.op .eq (.cons (.op .idx (.cons (.var 0) (.cons (.var 1) .nil))) (.cons (.cst (.int 2)) .nil)))) (.cons (.ret (.sx (.tup (.cons (.cst (.str "end")) (.cons (.aop .add (.cons (.var 1) (.cons (.cst (.int 1)) .nil))) .nil))))) .nil) .nil) (.cons (.ifs (.sx (.and (.op .eq (.cons (.op .idx (.cons (.var 0) (.cons (.var 1) .nil))) (.cons (.cst (.int 0)) .nil))) (.op .lt (.cons (.aop .add (.cons (.var 1) (.cons (.cst (.int 1)) .nil))) (.cons (.op .len (.cons (.var 0) .nil)) .nil))))) (.cons (.ret (.sx (.tup (.cons (.op .idx (.cons (.var 0) (.cons (.aop .add (.cons (.var 1) (.cons (.cst (.int 1)) .nil))) .nil))) (.cons (.aop .add (.cons (.var 1) (.cons (.cst (.int 2)) .nil))) .nil))))) .nil) .nil) (.cons (.ret (.sx (.cst .non))) .nil)))))⟩
def fnRuleAt (wa isa : Nat) : Fn := ⟨2, 4, (.cons (.set (.nm 2) (.call wa (.nm 0 (.ex (.new .add (.cons (.var 1) (.cons (.cst (.int 1)) .nil))) .nil)))) (.cons (.ifs (.sx (.op .isN (.cons (.var 2) .nil))) (.cons (.ret (.sx (.cst .non))) .nil) .nil) (.cons (.set (.nm 3) (.call isa (.nm 0 (.ex (.sx (.op .idx (.cons (.var 2) (.cons (.cst (.int 1)) .nil)))) .nil)))) (.cons (.ifs (.sx (.op .isN (.cons (.var 3) .nil))) (.cons (.ret (.sx (.cst .non))) .nil) .nil) (.cons (.ifs (.sx (.op .eq (.cons (.op .idx (.cons (.var 2) (.cons (.cst (.int 0)) .nil))) (.cons (.cst (.str "end")) .nil)))) (.cons (.ret (.sx (.tup (.cons (.tup (.cons (.op .idx (.cons (.var 0) (.cons (.var 1) .nil))) (.cons (.op .idx (.cons (.var 2) (.cons (.cst (.int 0)) .nil))) (.cons (.op .idx (.cons (.var 3) (.cons (.cst (.int 0)) .nil))) (.cons (.cst .non) .nil))))) (.cons (.op .idx (.cons (.var 3) (.cons (.cst (.int 1)) .nil))) .nil))))) .nil) .nil) (.cons (.ifs (.sx (.op .ge (.cons (.op .idx (.cons (.var 3) (.cons (.cst (.int 1)) .nil))) (.cons (.op .len (.cons (.var 0) .nil)) .nil)))) (.cons (.ret (.sx (.cst .non))) .nil) .nil) (.cons (.ret (.sx (.tup (.cons (.tup (.cons (.op .idx (.cons (.var 0) (.cons (.var 1) .nil))) (.cons (.op .idx (.cons (.var 2) (.cons (.cst (.int 0)) .nil))) (.cons (.op .idx (.cons (.var 3) (.cons (.cst (.int 0)) .nil))) (.cons (.op .idx (.cons (.var 0) (.cons (.op .idx (.cons (.var 3) (.cons (.cst (.int 1)) .nil))) .nil))) .nil))))) (.cons (.aop .add (.cons (.op .idx (.cons (.var 3) (.cons (.cst (.int 1)) .nil))) (.cons (.cst (.int 1)) .nil))) .nil))))) .nil)))))))⟩
def lpInit (ra : Nat) : B := (.cons (.set (.nm 4) (.call ra (.ex (.sx (.fld ["Rules"] (.var 0) "body")) (.nm 3 .nil)))) (.cons (.ifs (.sx (.op .isN (.cons (.var 4) .nil))) (.cons .brk .nil) .nil) (.cons (.expr (.mut .append 2 (.cons (.sx (.op .idx (.cons (.var 4) (.cons (.cst (.int 0)) .nil)))) .nil))) (.cons (.set (.nm 3) (.sx (.op .idx (.cons (.var 4) (.cons (.cst (.int 1)) .nil))))) .nil))))
def fnInit (cr ra : Nat) : Fn := ⟨2, 5, (.cons (.fset ["Rules"] 0 "body" (.call cr (.nm 1 .nil))) (.cons (.fset ["Rules"] 0 "start" (.sx (.cst (.int 0)))) (.cons (.set (.nm 2) (.lst .nil)) (.cons (.set (.nm 3) (.sx (.cst (.int 0)))) (.cons (.ifs (.sx (.op .gt (.cons (.op .len (.cons (.fld ["Rules"] (.var 0) "body") .nil)) (.cons (.cst (.int 0)) .nil)))) (.cons (.fset ["Rules"] 0 "start" (.sx (.op .idx (.cons (.fld ["Rules"] (.var 0) "body") (.cons (.cst (.int 0)) .nil))))) (.cons (.set (.nm 3) (.sx (.cst (.int 1)))) .nil)) .nil) (.cons (.whl (.sx (.op .lt (.cons (.var 3) (.cons (.op .len (.cons (.fld ["Rules"] (.var 0) "body") .nil)) .nil)))) (lpInit ra)) (.cons (.fset ["Rules"] 0 "rules" (.new .tupOf (.cons (.var 2) .nil))) (.cons (.fset ["Rules"] 0 "tail" (.new (.cut true false) (.cons (.fld ["Rules"] (.var 0) "body") (.cons (.var 3) .nil)))) .nil))))))))⟩
def fnEqR : Fn := ⟨2, 2, (.cons (.ret (.sx (.and (.op (.isC ["Rules"] "Rules") (.cons (.var 1) .nil)) (.op .eq (.cons (.fld ["Rules"] (.var 0) "body") (.cons (.fld ["Rules"] (.var 1) "body") .nil)))))) .nil)⟩
def fnIsRowL (is : Nat) : Fn := ⟨1, 2, (.cons (.ifs (.sx (.not (.op (.isi [.list, .tuple]) (.cons (.var 0) .nil)))) (.cons (.ret (.sx (.cst (.bl false)))) .nil) .nil) (.cons (.ret (.op .allB (.cons (.lcl (.nm 1) (elRow is) 0 (.cst (.bl true))) .nil))) .nil))⟩
/-! ### the program's reading -/
theorem atI_0 {x : D} {xs : List D} : atI (x :: xs) 0 = some x := atI_nat _ 0
theorem atI_1 {x y : D} {xs : List D} : atI (x :: y :: xs) 1 = some y := atI_nat _ 1
theorem atI_2 {x y z : D} {xs : List D} : atI (x :: y :: z :: xs) 2 = some z := atI_nat _ 2
theorem atI_iL {ws : List Int} {i : Nat} {j : Int} (e : j = (i : Int)) (h : i < ws.length) : atI (iL ws) j = some (.int (gw ws i)) := by
  rw [e, atI_nat]
  simp [iL, gw, List.getD, h]
theorem cut_iL2 (ws : List Int) (a b : Nat) {x y : Int} (ex : x = (a : Int)) (ey : y = (b : Int)) (h : a ≤ b) (h2 : b ≤ ws.length) : cutD (iL ws) (some x) (some y) = iL ((ws.drop a).take (b - a)) := by
  subst ex ey
  unfold cutD
  rw [HT.sIx_nat, HT.sIx_nat]
  have e : (iL ws).length = ws.length := List.length_map _
  rw [e, Nat.min_eq_left h2, Nat.min_eq_left (by omega)]
  simp [iL]
theorem cut_iLd (ws : List Int) (a : Nat) {x : Int} (ex : x = (a : Int)) (h2 : a ≤ ws.length) : cutD (iL ws) (some x) none = iL (ws.drop a) := by
  subst ex
  unfold cutD
  rw [HT.sIx_nat, HT.sIx_none]
  have e : (iL ws).length = ws.length := List.length_map _
  rw [e, Nat.min_eq_left h2, List.take_of_length_le (by rw [List.length_drop, e]; omega)]
  simp [iL]
section
variable {call : Nat → List D → Rr} {W : Nat}
def itO : Option (RIt × Nat) → D
  | none => .non
  | some (i, q) => .tup [i.d, .int (q : Nat)]
theorem itemAt {ws : List Int} (s : Sgs ws) (p : Nat) : runFn call W fnItemAt [.tup (iL ws), .int (p : Nat)] = .ret (itO (rdIt ws p)) [.tup (iL ws), .int (p : Nat)] := by
  have hL : (iL ws).length = ws.length := List.length_map _
  have s2 := sz2
  have s3 : (3 : Nat) ≤ sizeLine := by rw [sizeLine_eq]; decide
  unfold rdIt
  by_cases h : p + 1 < ws.length
  · rw [if_pos h]
    have a0 : atI (iL ws) (p : Int) = some (.int (gw ws p)) := atI_iL rfl (by omega)
    have a1 : atI (iL ws) ((p : Int) + 1) = some (.int (gw ws (p + 1))) := atI_iL (by omega) h
    have h' : ¬ ((ws.length : Int) ≤ (p : Int) + 1) := by omega
    have z := (s.gw h).1
    by_cases c0 : gw ws p = 0
    · rw [if_pos c0]
      rw [c0] at a0
      have en : (p : Int) + 2 + gw ws (p + 1) = ((p + 2 + (gw ws (p + 1)).toNat : Nat) : Int) := by omega
      by_cases hb : ws.length < p + 2 + (gw ws (p + 1)).toNat
      · rw [if_pos hb]
        have hb' : (ws.length : Int) < (p : Int) + 2 + gw ws (p + 1) := by omega
        generalize iL ws = L at a0 a1 hL ⊢
        simp [fnItemAt, runFn, exs, ex, ev, evs, evA, back, sv, svs, Tg.bind, ixP, fins, B.asg, S.asg, Tg.asg, deq_int, hL, h', a0, a1, hb', itO]
      · rw [if_neg hb]
        have hb' : ¬ ((ws.length : Int) < (p : Int) + 2 + gw ws (p + 1)) := by omega
        have ec : cutD (iL ws) (some ((p : Int) + 2)) (some ((p : Int) + 2 + gw ws (p + 1))) = iL ((ws.drop (p + 2)).take (gw ws (p + 1)).toNat) := by
          rw [cut_iL2 ws (p + 2) (p + 2 + (gw ws (p + 1)).toNat) (by omega) en (by omega) (by omega), Nat.add_sub_cancel_left]
        show _ = Rr.ret (.tup [.tup [.str "put", .tup (iL ((ws.drop (p + 2)).take (gw ws (p + 1)).toNat))], .int ((p + 2 + (gw ws (p + 1)).toNat : Nat) : Int)]) _
        rw [← en]
        generalize iL ((ws.drop (p + 2)).take (gw ws (p + 1)).toNat) = M at ec ⊢
        generalize iL ws = L at a0 a1 hL ec ⊢
        simp [fnItemAt, runFn, exs, ex, ev, evs, evA, back, sv, svs, Tg.bind, ixP, fins, B.asg, S.asg, Tg.asg, deq_int, hL, h', a0, a1, hb', ec, s2]
    · rw [if_neg c0]
      by_cases c1 : gw ws p = 1
      · rw [if_pos c1]
        rw [c1] at a0
        show _ = Rr.ret (.tup [.tup [.str "plus", .int (gw ws (p + 1))], .int ((p + 2 : Nat) : Int)]) _
        rw [show ((p + 2 : Nat) : Int) = (p : Int) + 2 by omega]
        generalize iL ws = L at a0 a1 hL ⊢
        simp [fnItemAt, runFn, exs, ex, ev, evs, evA, back, sv, svs, Tg.bind, ixP, fins, B.asg, S.asg, Tg.asg, deq_int, hL, h', a0, a1, s2]
      · rw [if_neg c1]
        by_cases c2 : gw ws p = 2 ∧ p + 2 < ws.length
        · rw [if_pos c2]
          have a2 : atI (iL ws) ((p : Int) + 2) = some (.int (gw ws (p + 2))) := atI_iL (by omega) c2.2
          have h2 : (p : Int) + 2 < (ws.length : Int) := by omega
          rw [c2.1] at a0
          show _ = Rr.ret (.tup [.tup [.str "own", .int (gw ws (p + 1)), .int (gw ws (p + 2))], .int ((p + 3 : Nat) : Int)]) _
          rw [show ((p + 3 : Nat) : Int) = (p : Int) + 3 by omega]
          generalize iL ws = L at a0 a1 a2 hL ⊢
          simp [fnItemAt, runFn, exs, ex, ev, evs, evA, back, sv, svs, Tg.bind, ixP, fins, B.asg, S.asg, Tg.asg, deq_int, hL, h', a0, a1, a2, h2, s2, s3]
        · rw [if_neg c2]
          have c2' : gw ws p = 2 → ¬ ((p : Int) + 2 < (ws.length : Int)) := fun e k => c2 ⟨e, by omega⟩
          generalize iL ws = L at a0 a1 hL ⊢
          by_cases c3 : gw ws p = 2
          · have c4 := c2' c3
            rw [c3] at a0
            simp [fnItemAt, runFn, exs, ex, ev, evs, evA, back, sv, svs, Tg.bind, ixP, fins, B.asg, S.asg, Tg.asg, deq_int, hL, h', a0, a1, c4, itO]
          · simp [fnItemAt, runFn, exs, ex, ev, evs, evA, back, sv, svs, Tg.bind, ixP, fins, B.asg, S.asg, Tg.asg, deq_int, hL, h', a0, a1, c0, c1, c3, itO]
  · rw [if_neg h]
    have h' : (ws.length : Int) ≤ (p : Int) + 1 := by omega
    generalize iL ws = L at hL ⊢
    simp [fnItemAt, runFn, exs, ex, ev, evs, evA, back, sv, svs, Tg.bind, ixP, fins, B.asg, S.asg, Tg.asg, deq_int, hL, h', itO]
@[simp] theorem asg_lpIts {ia} : (lpIts ia).asg = [5, 3] := rfl
@[simp] theorem itO_fz {o} : (itO o).fz = true := by rcases o with _ | ⟨i, q⟩ <;> rfl
theorem its_go {ia : Nat} {ws : List Int} {at_ : Option D} (hc : ∀ p : Nat, call ia [.tup (iL ws), .int (p : Nat)] = .ret (itO (rdIt ws p)) [.tup (iL ws), .int (p : Nat)]) : ∀ (ds : List D) (p : Nat) (acc : List RIt) (x y : Option D), acc.length + ds.length ≤ sizeLine →
    (∀ is q, rdIts ws ds.length p = some (is, q) → ∃ x' y', forGo (.nm 4) (exs call W none (lpIts ia)) ds [some (.tup (iL ws)), at_, some (.lst true (acc.map RIt.d)), some (.int (p : Nat)), x, y] = .nx [some (.tup (iL ws)), at_, some (.lst true ((acc ++ is).map RIt.d)), some (.int (q : Nat)), x', y']) ∧
    (rdIts ws ds.length p = none → ∃ l q x' y', forGo (.nm 4) (exs call W none (lpIts ia)) ds [some (.tup (iL ws)), at_, some (.lst true (acc.map RIt.d)), some (.int (p : Nat)), x, y] = .rt .non [some (.tup (iL ws)), at_, l, q, x', y'])
  | [], p, acc, x, y, _ => ⟨fun is q h => by
      have h : some (([] : List RIt), p) = some (is, q) := h
      cases h
      exact ⟨x, y, by simp [forGo]⟩, fun h => by cases h⟩
  | d :: ds, p, acc, x, y, hl => by
    have hl' : acc.length + (ds.length + 1) ≤ sizeLine := hl
    have lt : acc.length < sizeLine := by omega
    have c := hc p
    have st : ∀ r, forGo (.nm 4) (exs call W none (lpIts ia)) (d :: ds) [some (.tup (iL ws)), at_, some (.lst true (acc.map RIt.d)), some (.int (p : Nat)), x, y] = r ↔ turnO (exs call W none (lpIts ia) [some (.tup (iL ws)), at_, some (.lst true (acc.map RIt.d)), some (.int (p : Nat)), some d, y]) (forGo (.nm 4) (exs call W none (lpIts ia)) ds) = r := fun r => by
      rw [forGo_nm (by simp)] <;> rfl
    cases e : rdIt ws p with
    | none =>
      rw [e] at c
      have e1 : exs call W none (lpIts ia) [some (.tup (iL ws)), at_, some (.lst true (acc.map RIt.d)), some (.int (p : Nat)), some d, y] = .rt .non [some (.tup (iL ws)), at_, some (.lst true (acc.map RIt.d)), some (.int (p : Nat)), some d, some .non] := by
        generalize iL ws = L at c ⊢
        simp [lpIts, runFn, exs, ex, ev, evs, evA, back, sv, svs, Tg.bind, ixP, fins, B.asg, S.asg, Tg.asg, deq_int, c, itO]
      refine ⟨fun is q h => ?_, fun h => ⟨_, _, _, _, (st _).mpr (by rw [e1]; exact rfl)⟩⟩
      have : rdIts ws (ds.length + 1) p = none := by unfold rdIts; rw [e]
      rw [List.length_cons, this] at h
      cases h
    | some v =>
      obtain ⟨i, q1⟩ := v
      rw [e] at c
      have e1 : exs call W none (lpIts ia) [some (.tup (iL ws)), at_, some (.lst true (acc.map RIt.d)), some (.int (p : Nat)), some d, y] = .nx [some (.tup (iL ws)), at_, some (.lst true ((acc ++ [i]).map RIt.d)), some (.int (q1 : Nat)), some d, some (.tup [i.d, .int (q1 : Nat)])] := by
        generalize iL ws = L at c ⊢
        simp [lpIts, runFn, exs, ex, ev, evs, evA, back, sv, svs, Tg.bind, ixP, fins, B.asg, S.asg, Tg.asg, deq_int, c, itO, atI_0, atI_1, mutD, lt]
      obtain ⟨g1, g2⟩ := its_go hc ds q1 (acc ++ [i]) (some d) (some (.tup [i.d, .int (q1 : Nat)])) (by rw [List.length_append, List.length_singleton]; omega)
      have un : rdIts ws (ds.length + 1) p = match rdIts ws ds.length q1 with | none => none | some (is, e) => some (i :: is, e) := by
        show (match rdIt ws p with | none => none | some (i, q) => match rdIts ws ds.length q with | none => none | some (is, e) => some (i :: is, e)) = _
        rw [e]
      cases e2 : rdIts ws ds.length q1 with
      | none =>
        rw [e2] at un
        obtain ⟨l, q, x', y', h⟩ := g2 e2
        refine ⟨fun is q h => ?_, fun _ => ⟨l, q, x', y', (st _).mpr (by rw [e1]; exact h)⟩⟩
        rw [List.length_cons, un] at h
        cases h
      | some v2 =>
        obtain ⟨js, q2⟩ := v2
        rw [e2] at un
        obtain ⟨x', y', h⟩ := g1 js q2 e2
        refine ⟨fun is q k => ?_, fun k => ?_⟩
        · rw [List.length_cons, un] at k
          cases k
          exact ⟨x', y', (st _).mpr (by rw [e1]; exact h.trans (by rw [List.append_assoc] <;> rfl))⟩
        · rw [List.length_cons, un] at k
          cases k
def itsO : Option (List RIt × Nat) → D
  | none => .non
  | some (is, q) => .tup [.tup (is.map RIt.d), .int (q : Nat)]
theorem rng_len {n : Int} : (rngD 0 n).length = n.toNat := by unfold rngD; simp
theorem itemsAt {ia : Nat} {ws : List Int} (s : Sgs ws) (hc : ∀ p : Nat, call ia [.tup (iL ws), .int (p : Nat)] = .ret (itO (rdIt ws p)) [.tup (iL ws), .int (p : Nat)]) (p : Nat) : runFn call W (fnItemsAt ia) [.tup (iL ws), .int (p : Nat)] = .ret (if p < ws.length then itsO (rdIts ws (gw ws p).toNat (p + 1)) else .non) [.tup (iL ws), .int (p : Nat)] := by
  have hL : (iL ws).length = ws.length := List.length_map _
  have s2 := sz2
  by_cases h : p < ws.length
  · rw [if_pos h]
    have a0 : atI (iL ws) (p : Int) = some (.int (gw ws p)) := atI_iL rfl h
    have h' : ¬ ((ws.length : Int) ≤ (p : Int)) := by omega
    have z := s.gw h
    have sm := sm62 z.1 (by have := z.2; omega)
    have len := rng_len (n := gw ws p)
    obtain ⟨g1, g2⟩ := its_go (W := W) (at_ := some (.int (p : Nat))) hc (rngD 0 (gw ws p)) (p + 1) [] none none (by rw [len, sizeLine_eq]; have := z.2; simp; omega)
    rw [len] at g1 g2
    rw [show ((p + 1 : Nat) : Int) = (p : Int) + 1 by omega] at g1 g2
    simp only [List.map_nil, List.nil_append] at g1 g2
    cases e : rdIts ws (gw ws p).toNat (p + 1) with
    | none =>
      obtain ⟨l, q, x', y', g⟩ := g2 e
      generalize iL ws = L at a0 hL g ⊢
      simp [fnItemsAt, runFn, exs, ex, ev, evs, evA, back, sv, svs, Tg.bind, ixP, fins, B.asg, S.asg, Tg.asg, deq_int, evSrc, hL, h', a0, sm, g, itsO, s2]
    | some v =>
      obtain ⟨is, q⟩ := v
      obtain ⟨x', y', g⟩ := g1 is q e
      generalize iL ws = L at a0 hL g ⊢
      simp [fnItemsAt, runFn, exs, ex, ev, evs, evA, back, sv, svs, Tg.bind, ixP, fins, B.asg, S.asg, Tg.asg, deq_int, evSrc, hL, h', a0, sm, g, itsO, s2]
  · rw [if_neg h]
    have h' : (ws.length : Int) ≤ (p : Int) := by omega
    generalize iL ws = L at hL ⊢
    simp [fnItemsAt, runFn, exs, ex, ev, evs, evA, back, sv, svs, Tg.bind, ixP, fins, B.asg, S.asg, Tg.asg, deq_int, hL, h']
def wdO : Option (RWd × Nat) → D
  | none => .non
  | some (w, q) => .tup [w.d, .int (q : Nat)]
theorem wordAt {ws : List Int} (p : Nat) : runFn call W fnWordAt [.tup (iL ws), .int (p : Nat)] = .ret (wdO (rdWd ws p)) [.tup (iL ws), .int (p : Nat)] := by
  have hL : (iL ws).length = ws.length := List.length_map _
  have s2 := sz2
  unfold rdWd
  by_cases h : p < ws.length
  · rw [if_pos h]
    have a0 : atI (iL ws) (p : Int) = some (.int (gw ws p)) := atI_iL rfl h
    have h' : ¬ ((ws.length : Int) ≤ (p : Int)) := by omega
    by_cases c1 : gw ws p = 1
    · rw [if_pos c1]
      rw [c1] at a0
      generalize iL ws = L at a0 hL ⊢
      simp [fnWordAt, runFn, exs, ex, ev, evs, evA, back, sv, svs, Tg.bind, ixP, fins, B.asg, S.asg, Tg.asg, deq_int, hL, h', a0, s2, wdO, RWd.d]
    · rw [if_neg c1]
      by_cases c2 : gw ws p = 2
      · rw [if_pos c2]
        rw [c2] at a0
        generalize iL ws = L at a0 hL ⊢
        simp [fnWordAt, runFn, exs, ex, ev, evs, evA, back, sv, svs, Tg.bind, ixP, fins, B.asg, S.asg, Tg.asg, deq_int, hL, h', a0, s2, wdO, RWd.d]
      · rw [if_neg c2]
        by_cases c3 : gw ws p = 0 ∧ p + 1 < ws.length
        · rw [if_pos c3]
          have a1 : atI (iL ws) ((p : Int) + 1) = some (.int (gw ws (p + 1))) := atI_iL (by omega) c3.2
          have h2 : (p : Int) + 1 < (ws.length : Int) := by omega
          rw [c3.1] at a0
          generalize iL ws = L at a0 a1 hL ⊢
          simp [fnWordAt, runFn, exs, ex, ev, evs, evA, back, sv, svs, Tg.bind, ixP, fins, B.asg, S.asg, Tg.asg, deq_int, hL, h', a0, a1, h2, s2, wdO, RWd.d]
        · rw [if_neg c3]
          by_cases c4 : gw ws p = 0
          · have h2 : ¬ ((p : Int) + 1 < (ws.length : Int)) := fun k => c3 ⟨c4, by omega⟩
            rw [c4] at a0
            generalize iL ws = L at a0 hL ⊢
            simp [fnWordAt, runFn, exs, ex, ev, evs, evA, back, sv, svs, Tg.bind, ixP, fins, B.asg, S.asg, Tg.asg, deq_int, hL, h', a0, h2, s2, wdO]
          · generalize iL ws = L at a0 hL ⊢
            simp [fnWordAt, runFn, exs, ex, ev, evs, evA, back, sv, svs, Tg.bind, ixP, fins, B.asg, S.asg, Tg.asg, deq_int, hL, h', a0, c1, c2, c4, s2, wdO]
  · rw [if_neg h]
    have h' : (ws.length : Int) ≤ (p : Int) := by omega
    generalize iL ws = L at hL ⊢
    simp [fnWordAt, runFn, exs, ex, ev, evs, evA, back, sv, svs, Tg.bind, ixP, fins, B.asg, S.asg, Tg.asg, deq_int, hL, h', wdO]
def ruO : Option (RRu × Nat) → D
  | none => .non
  | some (r, q) => .tup [r.d, .int (q : Nat)]
theorem wd_fin {w : RWd} : deq w.d (.str "end") = some w.isFin := by
  cases w with
  | sg a => exact deq_intStr
  | other => exact deq_str
  | fin => exact deq_str
theorem ruleAt {wa isa : Nat} {ws : List Int} (hw : ∀ p : Nat, call wa [.tup (iL ws), .int (p : Nat)] = .ret (wdO (rdWd ws p)) [.tup (iL ws), .int (p : Nat)])
    (hi : ∀ p : Nat, call isa [.tup (iL ws), .int (p : Nat)] = .ret (if p < ws.length then itsO (rdIts ws (gw ws p).toNat (p + 1)) else .non) [.tup (iL ws), .int (p : Nat)]) (p : Nat) (hp : p < ws.length) :
    runFn call W (fnRuleAt wa isa) [.tup (iL ws), .int (p : Nat)] = .ret (ruO (rdRu ws p)) [.tup (iL ws), .int (p : Nat)] := by
  have hL : (iL ws).length = ws.length := List.length_map _
  have s2 := sz2
  have s4 : (4 : Nat) ≤ sizeLine := by rw [sizeLine_eq]; decide
  have a0 : atI (iL ws) (p : Int) = some (.int (gw ws p)) := atI_iL rfl hp
  have w1 := hw (p + 1)
  rw [show ((p + 1 : Nat) : Int) = (p : Int) + 1 by omega] at w1
  unfold rdRu
  cases e1 : rdWd ws (p + 1) with
  | none =>
    rw [e1] at w1
    generalize iL ws = L at w1 ⊢
    simp [fnRuleAt, runFn, exs, ex, ev, evs, evA, back, sv, svs, Tg.bind, ixP, fins, B.asg, S.asg, Tg.asg, deq_int, w1, wdO, ruO]
  | some v =>
    obtain ⟨w, m⟩ := v
    rw [e1] at w1
    have i1 := hi m
    by_cases hm : m < ws.length
    · rw [if_pos hm] at i1
      simp only [if_pos hm]
      cases e2 : rdIts ws (gw ws m).toNat (m + 1) with
      | none =>
        rw [e2] at i1
        generalize iL ws = L at w1 i1 ⊢
        simp [fnRuleAt, runFn, exs, ex, ev, evs, evA, back, sv, svs, Tg.bind, ixP, fins, B.asg, S.asg, Tg.asg, deq_int, w1, i1, wdO, itsO, ruO, atI_0, atI_1]
      | some v2 =>
        obtain ⟨is, e⟩ := v2
        rw [e2] at i1
        have wf := wd_fin (w := w)
        cases hf : w.isFin with
        | true =>
          rw [hf] at wf
          generalize iL ws = L at w1 i1 a0 ⊢
          simp [fnRuleAt, runFn, exs, ex, ev, evs, evA, back, sv, svs, Tg.bind, ixP, fins, B.asg, S.asg, Tg.asg, deq_int, w1, i1, a0, wdO, itsO, ruO, atI_0, atI_1, wf, s2, s4, RRu.d, optD]
        | false =>
          rw [hf] at wf
          by_cases he : e < ws.length
          · have a1 : atI (iL ws) (e : Int) = some (.int (gw ws e)) := atI_iL rfl he
            have h' : ¬ ((ws.length : Int) ≤ (e : Int)) := by omega
            simp only [if_pos he]
            generalize iL ws = L at w1 i1 a0 a1 hL ⊢
            simp [fnRuleAt, runFn, exs, ex, ev, evs, evA, back, sv, svs, Tg.bind, ixP, fins, B.asg, S.asg, Tg.asg, deq_int, w1, i1, a0, a1, hL, h', wdO, itsO, ruO, atI_0, atI_1, wf, s2, s4, RRu.d, optD]
          · have h' : (ws.length : Int) ≤ (e : Int) := by omega
            simp only [if_neg he]
            generalize iL ws = L at w1 i1 a0 hL ⊢
            simp [fnRuleAt, runFn, exs, ex, ev, evs, evA, back, sv, svs, Tg.bind, ixP, fins, B.asg, S.asg, Tg.asg, deq_int, w1, i1, a0, hL, h', wdO, itsO, ruO, atI_0, atI_1, wf, s2, s4]
    · rw [if_neg hm] at i1
      simp only [if_neg hm]
      generalize iL ws = L at w1 i1 ⊢
      simp [fnRuleAt, runFn, exs, ex, ev, evs, evA, back, sv, svs, Tg.bind, ixP, fins, B.asg, S.asg, Tg.asg, deq_int, w1, i1, wdO, ruO, atI_0, atI_1]
end
end VM

namespace VM
open PySem L2
theorem runFn_nx {call : Nat → List D → Rr} {W : Nat} {fn : Fn} {ds ps : List D} {E1 : En} (hl : ds.length = fn.np) (hn : fn.np ≤ fn.ns) (h : exs call W none fn.body (ds.map some ++ List.replicate (fn.ns - fn.np) none) = .nx E1) (hf : fins fn.body.asg E1 0 ds = some ps) : runFn call W fn ds = .ret .non ps := by
  unfold runFn
  rw [if_pos ⟨hl, hn⟩, h]
  simp only [hf]
theorem runFn_rt {call : Nat → List D → Rr} {W : Nat} {fn : Fn} {ds ps : List D} {d : D} {E1 : En} (hl : ds.length = fn.np) (hn : fn.np ≤ fn.ns) (h : exs call W none fn.body (ds.map some ++ List.replicate (fn.ns - fn.np) none) = .rt d E1) (hf : fins fn.body.asg E1 0 ds = some ps) : runFn call W fn ds = .ret d ps := by
  unfold runFn
  rw [if_pos ⟨hl, hn⟩, h]
  simp only [hf]
theorem runFn_exc {call : Nat → List D → Rr} {W : Nat} {fn : Fn} {ds ps : List D} {c : Nat} {d : D} {E1 : En} (hl : ds.length = fn.np) (hn : fn.np ≤ fn.ns) (h : exs call W none fn.body (ds.map some ++ List.replicate (fn.ns - fn.np) none) = .exc c d E1) (hf : fins fn.body.asg E1 0 ds = some ps) : runFn call W fn ds = .exc c d ps := by
  unfold runFn
  rw [if_pos ⟨hl, hn⟩, h]
  simp only [hf]
/-! ### Rules(body) -/
section
variable {call : Nat → List D → Rr} {W : Nat}
theorem rowL_go {is : Nat} : ∀ ws : List Int, (∀ w ∈ ws, call is [.int w] = .ret (.bl true) [.int w]) →
    lcGo (ev call none (elRow is)) (fun _ => some (.bl true)) (.nm 1) (iL ws) [none, none] = .ok (ws.map fun _ => D.bl true) [none, none]
  | [], _ => by simp [lcGo]
  | w :: ws, h => by
    have h1 := h w List.mem_cons_self
    have h2 := rowL_go ws fun u hu => h u (List.mem_cons_of_mem _ hu)
    simp only [iL] at h2
    rw [show iL (w :: ws) = .int w :: ws.map D.int from rfl, lcGo]
    have e1 : ev call none (elRow is) [none, some (.int w)] = .ok (.bl true) [none, some (.int w)] := by simp [elRow, runFn, exs, ex, ev, evs, evA, back, sv, svs, atI, ixN, Tg.bind, ixP, fins, B.asg, S.asg, Tg.asg, deq_int, h1]
    simp [Tg.bind, Tg.asg, clr, e1, h2]
theorem isRowL {is : Nat} {ws : List Int} (h : ∀ w ∈ ws, call is [.int w] = .ret (.bl true) [.int w]) (hl : ws.length ≤ sizeLine) {d : D} (hd : d = .tup (iL ws) ∨ ∃ o, d = .lst o (iL ws)) : runFn call W (fnIsRowL is) [d] = .ret (.bl true) [d] := by
  have g := rowL_go ws h
  have hL : (iL ws).length ≤ sizeLine := by rw [List.length_map]; exact hl
  have f : fzL (iL ws) = true := fzL_ints
  have b := bools_true ws
  have al : (ws.map fun _ => true).all id = true := by simp
  rcases hd with rfl | ⟨o, rfl⟩
  · generalize iL ws = L at g hL f ⊢
    simp [fnIsRowL, runFn, exs, ex, ev, evs, evA, back, sv, svs, atI, ixN, Tg.bind, ixP, fins, B.asg, S.asg, Tg.asg, deq_int, Kd.isTy, clr, g, hL, b]
  · generalize iL ws = L at g hL f ⊢
    cases o <;> simp [fnIsRowL, runFn, exs, ex, ev, evs, evA, back, sv, svs, atI, ixN, Tg.bind, ixP, fins, B.asg, S.asg, Tg.asg, deq_int, Kd.isTy, clr, g, hL, f, b]
theorem checkedRowL {ir c : Nat} {ws : List Int} {d : D} (hd : d = .tup (iL ws) ∨ ∃ o, d = .lst o (iL ws)) (h : call ir [d] = .ret (.bl true) [d]) : runFn call W (fnCheckedRow ir c) [d] = .ret (.tup (iL ws)) [d] := by
  have f : fzL (iL ws) = true := fzL_ints
  rcases hd with rfl | ⟨o, rfl⟩
  · generalize iL ws = L at h f ⊢
    simp [fnCheckedRow, runFn, exs, ex, ev, evs, evA, back, sv, svs, atI, ixN, Tg.bind, ixP, fins, B.asg, S.asg, Tg.asg, deq_int, h]
  · generalize iL ws = L at h f ⊢
    cases o <;> simp [fnCheckedRow, runFn, exs, ex, ev, evs, evA, back, sv, svs, atI, ixN, Tg.bind, ixP, fins, B.asg, S.asg, Tg.asg, deq_int, h, f]
/-- the object that is being made -/
abbrev insO (o : Bool) (ns : List Str) (ds : List D) : D := .ins o "Rules" ns ds
@[simp] theorem fz_ins {o c n f} : (D.ins o c n f).fz = !o := rfl
abbrev fsO (ws : List Int) (st : D) : D := insO true ["body", "start"] [.tup (iL ws), st]
def cdInit : M := .sx (.op .lt (.cons (.var 3) (.cons (.op .len (.cons (.fld ["Rules"] (.var 0) "body") .nil)) .nil)))
@[simp] theorem asg_lpInit {ra} : (lpInit ra).asg = [4, 3] := rfl
theorem look_hd {f : Str} {ns : List Str} {x : D} {xs : List D} : look f (f :: ns) (x :: xs) = some x := by
  unfold look
  rw [if_pos rfl]
theorem init_go {ra : Nat} {ws : List Int} (s : Sgs ws) {st : D} {bd : Option D} (hr : ∀ p : Nat, p < ws.length → call ra [.tup (iL ws), .int (p : Nat)] = .ret (ruO (rdRu ws p)) [.tup (iL ws), .int (p : Nat)]) : ∀ (m n p : Nat) (acc : List RRu) (x : Option D), ws.length - p ≤ m → m < n → acc.length + m ≤ sizeLine →
    ∃ x', whGo (ev call none cdInit) (exs call W none (lpInit ra)) n [some (fsO ws st), bd, some (.lst true (acc.map RRu.d)), some (.int (p : Nat)), x] = .nx [some (fsO ws st), bd, some (.lst true ((acc ++ (rds ws m p).1).map RRu.d)), some (.int ((rds ws m p).2 : Nat)), x']
  | m, 0, p, acc, x, _, h, _ => by omega
  | m, n + 1, p, acc, x, hm, hn, hl => by
    have hL : (iL ws).length = ws.length := List.length_map _
    have ec : ev call none cdInit [some (fsO ws st), bd, some (.lst true (acc.map RRu.d)), some (.int (p : Nat)), x] = .ok (.bl (decide ((p : Int) < (ws.length : Int)))) [some (fsO ws st), bd, some (.lst true (acc.map RRu.d)), some (.int (p : Nat)), x] := by
      unfold fsO
      generalize iL ws = L at hL ⊢
      simp [cdInit, runFn, exs, ex, ev, evs, evA, back, sv, svs, Tg.bind, ixP, fins, B.asg, S.asg, Tg.asg, deq_int, look_hd, hL]
    rw [whGo_succ, ec]
    by_cases h : p < ws.length
    · have h' : decide ((p : Int) < (ws.length : Int)) = true := decide_eq_true (by omega)
      rw [h']
      show ∃ x', turnO (exs call W none (lpInit ra) _) (whGo _ _ n) = _
      have c := hr p h
      obtain ⟨m, rfl⟩ : ∃ m', m = m' + 1 := ⟨m - 1, by omega⟩
      have lt : acc.length < sizeLine := by omega
      have un : rds ws (m + 1) p = match rdRu ws p with | none => ([], p) | some (r, q) => (r :: (rds ws m q).1, (rds ws m q).2) := by
        show (if p < ws.length then (match rdRu ws p with | none => ([], p) | some (r, q) => (r :: (rds ws m q).1, (rds ws m q).2)) else ([], p)) = _
        rw [if_pos h]
      cases e : rdRu ws p with
      | none =>
        rw [e] at un c
        have e1 : exs call W none (lpInit ra) [some (fsO ws st), bd, some (.lst true (acc.map RRu.d)), some (.int (p : Nat)), x] = .brk [some (fsO ws st), bd, some (.lst true (acc.map RRu.d)), some (.int (p : Nat)), some .non] := by
          unfold fsO
          generalize iL ws = L at c ⊢
          simp [lpInit, runFn, exs, ex, ev, evs, evA, back, sv, svs, Tg.bind, ixP, fins, B.asg, S.asg, Tg.asg, deq_int, look_hd, c, ruO]
        rw [e1, un]
        exact ⟨some .non, by rw [List.append_nil] <;> rfl⟩
      | some v =>
        obtain ⟨r, q⟩ := v
        rw [e] at un c
        have sp := (rdRu_spec s h e).2.2.1
        have e1 : exs call W none (lpInit ra) [some (fsO ws st), bd, some (.lst true (acc.map RRu.d)), some (.int (p : Nat)), x] = .nx [some (fsO ws st), bd, some (.lst true ((acc ++ [r]).map RRu.d)), some (.int (q : Nat)), some (.tup [r.d, .int (q : Nat)])] := by
          unfold fsO
          generalize iL ws = L at c ⊢
          simp [lpInit, runFn, exs, ex, ev, evs, evA, back, sv, svs, Tg.bind, ixP, fins, B.asg, S.asg, Tg.asg, deq_int, look_hd, c, ruO, atI_0, atI_1, mutD, lt]
        rw [e1, un]
        obtain ⟨x', g⟩ := init_go s (st := st) (bd := bd) hr m n q (acc ++ [r]) (some (.tup [r.d, .int (q : Nat)])) (by omega) (by omega) (by rw [List.length_append, List.length_singleton]; omega)
        exact ⟨x', g.trans (by rw [List.append_assoc] <;> rfl)⟩
    · have h' : decide ((p : Int) < (ws.length : Int)) = false := decide_eq_false (by omega)
      rw [h']
      have un : rds ws m p = ([], p) := by
        cases m with
        | zero => rfl
        | succ m =>
          show (if p < ws.length then (match rdRu ws p with | none => ([], p) | some (r, q) => (r :: (rds ws m q).1, (rds ws m q).2)) else ([], p)) = _
          rw [if_neg h]
      rw [un]
      exact ⟨x, by rw [List.append_nil] <;> rfl⟩
/-- what a body is read as -/
def rulesO (o : Bool) (ws : List Int) : D := insO o ["body", "start", "rules", "tail"] [.tup (iL ws), .int (gw ws 0), .tup ((rdAll ws).1.map RRu.d), .tup (iL (ws.drop (rdAll ws).2))]
theorem callInit {cr ra : Nat} {ws : List Int} (s : Sgs ws) (hlen : ws.length ≤ 90000) {d : D} (hd : d = .tup (iL ws) ∨ ∃ o, d = .lst o (iL ws)) (hr : ∀ p : Nat, p < ws.length → call ra [.tup (iL ws), .int (p : Nat)] = .ret (ruO (rdRu ws p)) [.tup (iL ws), .int (p : Nat)])
    (hc : call cr [d] = .ret (.tup (iL ws)) [d]) : runFn call 100000 (fnInit cr ra) [insO true [] [], d] = .ret .non [rulesO true ws, d] := by
  have hL : (iL ws).length = ws.length := List.length_map _
  have fL : fzL (iL ws) = true := fzL_ints
  have dn : d.fz = true ∨ ∃ xs, d = .lst true xs := by
    rcases hd with rfl | ⟨o, rfl⟩
    · exact .inl rfl
    · cases o with
      | false => exact .inl rfl
      | true => exact .inr ⟨_, rfl⟩
  have n1 : ¬ (("body" : Str) = ("start" : Str)) := by decide
  have n2 : ¬ (("body" : Str) = ("rules" : Str)) := by decide
  have n3 : ¬ (("start" : Str) = ("rules" : Str)) := by decide
  have n4 : ¬ (("body" : Str) = ("tail" : Str)) := by decide
  have n5 : ¬ (("start" : Str) = ("tail" : Str)) := by decide
  have n6 : ¬ (("rules" : Str) = ("tail" : Str)) := by decide
  have ret : ∀ {E1 : En}, exs call 100000 none (fnInit cr ra).body [some (insO true [] []), some d, none, none, none] = .nx E1 → E1[0]?.join = some (rulesO true ws) → E1[1]?.join = some d → runFn call 100000 (fnInit cr ra) [insO true [] [], d] = .ret .non [rulesO true ws, d] := fun {E1} h h0 h1 => by
    have a0 : (0 : Nat) ∉ (fnInit cr ra).body.asg := by simp [fnInit, B.asg, S.asg, Tg.asg]
    have a1 : (1 : Nat) ∉ (fnInit cr ra).body.asg := by simp [fnInit, B.asg, S.asg, Tg.asg]
    refine runFn_nx (E1 := E1) rfl (show 2 ≤ 5 by decide) h ?_
    simp only [fins, if_neg a0, Nat.zero_add, if_neg a1, h0, h1]
  have lt2 : ∀ st, ∃ x', whGo (ev call none cdInit) (exs call 100000 none (lpInit ra)) 100000 [some (fsO ws st), some d, some (.lst true []), some (.int ((if ws.length = 0 then 0 else 1 : Nat) : Int)), none] = .nx [some (fsO ws st), some d, some (.lst true ((rdAll ws).1.map RRu.d)), some (.int ((rdAll ws).2 : Nat)), x'] := fun st => by
    by_cases h0 : ws.length = 0
    · obtain ⟨x', g⟩ := init_go (W := 100000) s (st := st) (bd := some d) hr 0 100000 0 [] none (by omega) (by decide) (Nat.zero_le _)
      rw [if_pos h0]
      refine ⟨x', g.trans ?_⟩
      unfold rdAll
      rw [if_pos h0] <;> rfl
    · obtain ⟨x', g⟩ := init_go (W := 100000) s (st := st) (bd := some d) hr ws.length 100000 1 [] none (by omega) (by omega) (by rw [sizeLine_eq]; simp; omega)
      rw [if_neg h0]
      refine ⟨x', g.trans ?_⟩
      unfold rdAll
      rw [if_neg h0] <;> rfl
  obtain ⟨x', go⟩ := lt2 (.int (gw ws 0))
  have sp := rdAll_spec s
  have ed : cutD (iL ws) (some ((rdAll ws).2 : Int)) none = iL (ws.drop (rdAll ws).2) := cut_iLd ws _ rfl sp.2.2.2
  have fr : fzL ((rdAll ws).1.map RRu.d) = true := fzL_rus _
  refine ret (E1 := [some (rulesO true ws), some d, some (.lst true ((rdAll ws).1.map RRu.d)), some (.int ((rdAll ws).2 : Nat)), x']) ?_ rfl rfl
  unfold rulesO
  generalize iL (ws.drop (rdAll ws).2) = M at ed ⊢
  generalize (rdAll ws).1.map RRu.d = R at go fr ⊢
  generalize ((rdAll ws).2 : Int) = e at go ed ⊢
  simp only [fnInit]
  -- self.body
  refine exs_step (E1 := [some (insO true ["body"] [.tup (iL ws)]), some d, none, none, none]) ?_ ?_
  · generalize iL ws = L at hc ⊢
    rcases dn with dn | ⟨xs, rfl⟩
    · simp [runFn, exs, ex, ev, evs, evA, back, sv, svs, Tg.bind, ixP, fins, B.asg, S.asg, Tg.asg, deq_int, hc, dn, putN, putV]
    · simp [runFn, exs, ex, ev, evs, evA, back, sv, svs, Tg.bind, ixP, fins, B.asg, S.asg, Tg.asg, deq_int, hc, putN, putV]
  refine exs_step (E1 := [some (fsO ws (.int 0)), some d, none, none, none]) (by simp [runFn, exs, ex, ev, evs, evA, back, sv, svs, Tg.bind, ixP, fins, B.asg, S.asg, Tg.asg, deq_int, putN, putV, n1, fsO]) ?_
  refine exs_step (E1 := [some (fsO ws (.int 0)), some d, some (.lst true []), none, none]) (by simp [runFn, exs, ex, ev, evs, evA, back, sv, svs, Tg.bind, ixP, fins, B.asg, S.asg, Tg.asg, deq_int]) ?_
  refine exs_step (E1 := [some (fsO ws (.int 0)), some d, some (.lst true []), some (.int 0), none]) (by simp [runFn, exs, ex, ev, evs, evA, back, sv, svs, Tg.bind, ixP, fins, B.asg, S.asg, Tg.asg, deq_int]) ?_
  refine exs_step (E1 := [some (fsO ws (.int (gw ws 0))), some d, some (.lst true []), some (.int ((if ws.length = 0 then 0 else 1 : Nat) : Int)), none]) ?_ ?_
  · by_cases h0 : ws.length = 0
    · have e0 : gw ws 0 = 0 := by
        have : ws = [] := List.eq_nil_of_length_eq_zero h0
        subst this
        rfl
      rw [e0, if_pos h0]
      unfold fsO
      rw [h0] at hL
      generalize iL ws = L at hL ⊢
      simp [runFn, exs, ex, ev, evs, evA, back, sv, svs, Tg.bind, ixP, fins, B.asg, S.asg, Tg.asg, deq_int, look_hd, hL]
    · have a0 : atI (iL ws) 0 = some (.int (gw ws 0)) := atI_iL (i := 0) rfl (by omega)
      have h1 : 0 < ws.length := by omega
      rw [if_neg h0]
      unfold fsO
      generalize iL ws = L at hL a0 ⊢
      simp [runFn, exs, ex, ev, evs, evA, back, sv, svs, Tg.bind, ixP, fins, B.asg, S.asg, Tg.asg, deq_int, look_hd, hL, h1, a0, putN, putV, n1]
  refine exs_step (E1 := [some (fsO ws (.int (gw ws 0))), some d, some (.lst true R), some (.int e), x']) (go) ?_
  refine exs_step (E1 := [some (insO true ["body", "start", "rules"] [.tup (iL ws), .int (gw ws 0), .tup R]), some d, some (.lst true R), some (.int e), x']) (by simp [runFn, exs, ex, ev, evs, evA, back, sv, svs, Tg.bind, ixP, fins, B.asg, S.asg, Tg.asg, deq_int, putN, putV, n1, n2, n3, fsO, fr]) ?_
  generalize iL ws = L at ed ⊢
  simp [runFn, exs, ex, ev, evs, evA, back, sv, svs, Tg.bind, ixP, fins, B.asg, S.asg, Tg.asg, deq_int, look_hd, putN, putV, n4, n5, n6, ed]
end
end VM

namespace VM
open PySem L2
def fnTake : Fn := ⟨3, 3, (.cons (.ifs (.sx (.op .gt (.cons (.aop .add (.cons (.op .idx (.cons (.var 1) (.cons (.cst (.int 0)) .nil))) (.cons (.var 2) .nil))) (.cons (.op .len (.cons (.var 0) .nil)) .nil)))) (.cons (.put 1 (.cst (.int 1)) (.sx (.cst (.int 1)))) (.cons (.ret (.aop .mul (.cons (.lst (.cons (.sx (.cst (.int 0))) .nil)) (.cons (.sx (.var 2)) .nil)))) .nil)) .nil) (.cons (.put 1 (.cst (.int 0)) (.sx (.aop .add (.cons (.op .idx (.cons (.var 1) (.cons (.cst (.int 0)) .nil))) (.cons (.var 2) .nil))))) (.cons (.ret (.new (.cut true true) (.cons (.var 0) (.cons (.op .sub (.cons (.op .idx (.cons (.var 1) (.cons (.cst (.int 0)) .nil))) (.cons (.var 2) .nil))) (.cons (.op .idx (.cons (.var 1) (.cons (.cst (.int 0)) .nil))) .nil))))) .nil)))⟩
def lpRR (tk : Nat) : B := (.cons (.set (.nm 9) (.op .idx (.cons (.call tk (.nm 0 (.nm 2 (.ex (.sx (.cst (.int 1))) .nil)))) (.cons (.sx (.cst (.int 0))) .nil)))) (.cons (.ifs (.sx (.op .eq (.cons (.var 9) (.cons (.cst (.int 0)) .nil)))) (.cons (.set (.nm 10) (.op .idx (.cons (.call tk (.nm 0 (.nm 2 (.ex (.sx (.cst (.int 1))) .nil)))) (.cons (.sx (.cst (.int 0))) .nil)))) (.cons (.expr (.mut .append 6 (.cons (.tup (.cons (.sx (.cst (.str "put"))) (.cons (.aop .tupOf (.cons (.call tk (.nm 0 (.nm 2 (.nm 10 .nil)))) .nil)) .nil))) .nil))) .nil)) (.cons (.ifs (.sx (.op .eq (.cons (.var 9) (.cons (.cst (.int 1)) .nil)))) (.cons (.expr (.mut .append 6 (.cons (.tup (.cons (.sx (.cst (.str "plus"))) (.cons (.op .idx (.cons (.call tk (.nm 0 (.nm 2 (.ex (.sx (.cst (.int 1))) .nil)))) (.cons (.sx (.cst (.int 0))) .nil))) .nil))) .nil))) .nil) (.cons (.ifs (.sx (.op .eq (.cons (.var 9) (.cons (.cst (.int 2)) .nil)))) (.cons (.set (.nm 11) (.call tk (.nm 0 (.nm 2 (.ex (.sx (.cst (.int 2))) .nil))))) (.cons (.expr (.mut .append 6 (.cons (.sx (.tup (.cons (.cst (.str "own")) (.cons (.op .idx (.cons (.var 11) (.cons (.cst (.int 0)) .nil))) (.cons (.op .idx (.cons (.var 11) (.cons (.cst (.int 1)) .nil))) .nil))))) .nil))) .nil)) (.cons (.put 2 (.cst (.int 1)) (.sx (.cst (.int 1)))) .nil)) .nil)) .nil)) (.cons (.ifs (.sx (.op .eq (.cons (.op .idx (.cons (.var 2) (.cons (.cst (.int 1)) .nil))) (.cons (.cst (.int 1)) .nil)))) (.cons .brk .nil) .nil) .nil)))
def sRR0 (tk : Nat) : S := (.set (.nm 2) (.lst (.cons (.sx (.var 1)) (.cons (.sx (.cst (.int 0))) .nil))))
def sRR1 (tk : Nat) : S := (.set (.nm 3) (.op .idx (.cons (.call tk (.nm 0 (.nm 2 (.ex (.sx (.cst (.int 1))) .nil)))) (.cons (.sx (.cst (.int 0))) .nil))))
def sRR2 (tk : Nat) : S := (.set (.nm 4) (.op .idx (.cons (.call tk (.nm 0 (.nm 2 (.ex (.sx (.cst (.int 1))) .nil)))) (.cons (.sx (.cst (.int 0))) .nil))))
def sRR3 (tk : Nat) : S := (.set (.nm 5) (.sx (.cst (.str "other"))))
def sRR4 (tk : Nat) : S := (.ifs (.sx (.op .eq (.cons (.var 4) (.cons (.cst (.int 2)) .nil)))) (.cons (.set (.nm 5) (.sx (.cst (.str "end")))) .nil) (.cons (.ifs (.sx (.op .eq (.cons (.var 4) (.cons (.cst (.int 0)) .nil)))) (.cons (.set (.nm 5) (.op .idx (.cons (.call tk (.nm 0 (.nm 2 (.ex (.sx (.cst (.int 1))) .nil)))) (.cons (.sx (.cst (.int 0))) .nil)))) .nil) (.cons (.ifs (.sx (.op .ne (.cons (.var 4) (.cons (.cst (.int 1)) .nil)))) (.cons (.put 2 (.cst (.int 1)) (.sx (.cst (.int 1)))) .nil) .nil) .nil)) .nil))
def sRR5 (tk : Nat) : S := (.set (.nm 6) (.lst .nil))
def sRR6 (tk : Nat) : S := (.fors (.nm 7) (.rngM (.op .idx (.cons (.call tk (.nm 0 (.nm 2 (.ex (.sx (.cst (.int 1))) .nil)))) (.cons (.sx (.cst (.int 0))) .nil)))) (lpRR tk))
def sRR7 (tk : Nat) : S := (.set (.nm 8) (.sx (.cst .non)))
def sRR8 (tk : Nat) : S := (.ifs (.sx (.op .ne (.cons (.var 4) (.cons (.cst (.int 2)) .nil)))) (.cons (.set (.nm 8) (.op .idx (.cons (.call tk (.nm 0 (.nm 2 (.ex (.sx (.cst (.int 1))) .nil)))) (.cons (.sx (.cst (.int 0))) .nil)))) .nil) .nil)
def sRR9 (tk : Nat) : S := (.ifs (.sx (.op .eq (.cons (.op .idx (.cons (.var 2) (.cons (.cst (.int 1)) .nil))) (.cons (.cst (.int 1)) .nil)))) (.cons (.ret (.sx (.cst .non))) .nil) .nil)
def sRR10 (tk : Nat) : S := (.ret (.lst (.cons (.sx (.tup (.cons (.var 3) (.cons (.var 5) (.cons (.aop .tupOf (.cons (.var 6) .nil)) (.cons (.var 8) .nil)))))) (.cons (.sx (.op .idx (.cons (.var 2) (.cons (.cst (.int 0)) .nil)))) .nil))))
def fnReadRule (tk : Nat) : Fn := ⟨2, 12, (.cons (sRR0 tk) (.cons (sRR1 tk) (.cons (sRR2 tk) (.cons (sRR3 tk) (.cons (sRR4 tk) (.cons (sRR5 tk) (.cons (sRR6 tk) (.cons (sRR7 tk) (.cons (sRR8 tk) (.cons (sRR9 tk) (.cons (sRR10 tk) .nil)))))))))))⟩
def lpRd (rr : Nat) : B := (.cons (.ifs (.sx (.op .ge (.cons (.var 2) (.cons (.op .len (.cons (.var 0) .nil)) .nil)))) (.cons .brk .nil) .nil) (.cons (.set (.nm 4) (.call rr (.nm 0 (.nm 2 .nil)))) (.cons (.ifs (.sx (.op .isN (.cons (.var 4) .nil))) (.cons .brk .nil) .nil) (.cons (.expr (.mut .append 1 (.cons (.sx (.op .idx (.cons (.var 4) (.cons (.cst (.int 0)) .nil)))) .nil))) (.cons (.set (.nm 2) (.sx (.op .idx (.cons (.var 4) (.cons (.cst (.int 1)) .nil))))) .nil)))))
def fnReading (rr : Nat) : Fn := ⟨1, 5, (.cons (.ifs (.sx (.op .eq (.cons (.op .len (.cons (.var 0) .nil)) (.cons (.cst (.int 0)) .nil)))) (.cons (.ret (.lst (.cons (.sx (.cst (.int 0))) (.cons (.lst .nil) (.cons (.sx (.cst (.int 0))) .nil))))) .nil) .nil) (.cons (.set (.nm 1) (.lst .nil)) (.cons (.set (.nm 2) (.sx (.cst (.int 1)))) (.cons (.fors (.nm 3) (.rng1 (.op .len (.cons (.var 0) .nil))) (lpRd rr)) (.cons (.ret (.lst (.cons (.sx (.op .idx (.cons (.var 0) (.cons (.cst (.int 0)) .nil)))) (.cons (.mv 1) (.cons (.sx (.var 2)) .nil))))) .nil)))))⟩
/-! ### the law's reading -/
section
variable {call : Nat → List D → Rr} {W : Nat}
abbrev plc (p : Nat) (f : Int) : D := .lst true [.int (p : Nat), .int f]
theorem zeros_fz (m : Nat) : fzL (List.replicate m [D.int 0]).flatten = true := by
  induction m with
  | zero => rfl
  | succ m ih => rw [List.replicate_succ, List.flatten_cons, fzL_append, ih] <;> rfl
theorem takeCS {L M : List D} {n p m f : Int} (hL : (L.length : Int) = n) (h : ¬ (n < p + m)) (e : cutD L (some p) (some (p + m)) = M) (fL : fzL L = true) : runFn call W fnTake [.lst false L, .lst true [.int p, .int f], .int m] = .ret (.lst true M) [.lst false L, .lst true [.int (p + m), .int f], .int m] := by
  simp [fnTake, runFn, exs, ex, ev, evs, evA, back, sv, svs, atI, ixN, Tg.bind, ixP, fins, B.asg, S.asg, Tg.asg, deq_int, hL, h, e, fL]
theorem takeCF {L Z : List D} {n p m f : Int} (hL : (L.length : Int) = n) (h : n < p + m) (e : aop .mul [.lst true [.int 0], .int m] = some (.lst true Z)) (s1 : 1 ≤ sizeLine) : runFn call W fnTake [.lst false L, .lst true [.int p, .int f], .int m] = .ret (.lst true Z) [.lst false L, .lst true [.int p, .int 1], .int m] := by
  simp [fnTake, runFn, exs, ex, ev, evs, evA, back, sv, svs, atI, ixN, Tg.bind, ixP, fins, B.asg, S.asg, Tg.asg, deq_int, hL, h, e, s1, -aop_mulL]
theorem takeS {ws : List Int} {p m : Nat} {f : Int} (h : p + m ≤ ws.length) : runFn call W fnTake [.lst false (iL ws), plc p f, .int (m : Nat)] = .ret (.lst true (iL ((ws.drop p).take m))) [.lst false (iL ws), plc (p + m) f, .int (m : Nat)] := by
  have hL : ((iL ws).length : Int) = (ws.length : Int) := by rw [List.length_map]
  have e : cutD (iL ws) (some (p : Int)) (some ((p : Int) + (m : Int))) = iL ((ws.drop p).take m) := by
    rw [cut_iL2 ws p (p + m) rfl (Int.natCast_add p m).symm (Nat.le_add_right _ _) h, Nat.add_sub_cancel_left]
  have := takeCS (call := call) (W := W) (f := f) hL (Int.not_lt.mpr (by rw [← Int.natCast_add]; exact Int.ofNat_le.mpr h)) e fzL_ints
  rw [← Int.natCast_add] at this
  exact this
theorem mulZ {m : Int} (h0 : 0 ≤ m) (h1 : m ≤ 1000) : aop .mul [.lst true [.int 0], .int m] = some (.lst true (List.replicate m.toNat [D.int 0]).flatten) := by
  have b1 : -(2 ^ 63) ≤ m := by omega
  have b2 : m < 2 ^ 63 := by omega
  have b3 : [D.int 0].length * m.toNat ≤ sizeLine := by
    rw [sizeLine_eq]
    have : m.toNat ≤ 1000 := by omega
    show 1 * _ ≤ _
    omega
  rw [aop_mulL, if_pos ⟨rfl, b1, b2, b3⟩]
theorem takeF {ws : List Int} {p m : Nat} {f : Int} (h : ws.length < p + m) (hm : m ≤ 1000) : runFn call W fnTake [.lst false (iL ws), plc p f, .int (m : Nat)] = .ret (.lst true (List.replicate m [D.int 0]).flatten) [.lst false (iL ws), plc p 1, .int (m : Nat)] := by
  have hL : ((iL ws).length : Int) = (ws.length : Int) := by rw [List.length_map]
  have e := mulZ (m := (m : Int)) (Int.natCast_nonneg m) (Int.ofNat_le.mpr hm)
  rw [Int.toNat_natCast] at e
  exact takeCF (call := call) (W := W) (f := f) hL (by rw [← Int.natCast_add]; exact Int.ofNat_lt.mpr h) e sz1
/-- what is asked of _law_take -/
structure TkOk (call : Nat → List D → Rr) (tk : Nat) (ws : List Int) : Prop where
  s : ∀ (p m : Nat) (f : Int), p + m ≤ ws.length → call tk [.lst false (iL ws), plc p f, .int (m : Nat)] = .ret (.lst true (iL ((ws.drop p).take m))) [.lst false (iL ws), plc (p + m) f, .int (m : Nat)]
  f : ∀ (p m : Nat) (f : Int), ws.length < p + m → m ≤ 1000 → call tk [.lst false (iL ws), plc p f, .int (m : Nat)] = .ret (.lst true (List.replicate m [D.int 0]).flatten) [.lst false (iL ws), plc p 1, .int (m : Nat)]
section
variable {tk : Nat} {ws : List Int} (T : TkOk call tk ws)
include T
theorem TkOk.s1 {p : Nat} {f : Int} (h : p < ws.length) : call tk [.lst false (iL ws), plc p f, .int 1] = .ret (.lst true [.int (gw ws p)]) [.lst false (iL ws), plc (p + 1) f, .int 1] := by
  have := T.s p 1 f h
  rw [drop_gw h] at this
  exact this
theorem TkOk.f1 {p : Nat} {f : Int} (h : ¬ p < ws.length) : call tk [.lst false (iL ws), plc p f, .int 1] = .ret (.lst true [.int 0]) [.lst false (iL ws), plc p 1, .int 1] := T.f p 1 f (by omega) (by decide)
theorem TkOk.s2 {p : Nat} {f : Int} (h : p + 1 < ws.length) : call tk [.lst false (iL ws), plc p f, .int 2] = .ret (.lst true [.int (gw ws p), .int (gw ws (p + 1))]) [.lst false (iL ws), plc (p + 2) f, .int 2] := by
  have := T.s p 2 f h
  rw [drop_gw (by omega), drop_gw h] at this
  exact this
theorem TkOk.f2 {p : Nat} {f : Int} (h : ¬ p + 1 < ws.length) : call tk [.lst false (iL ws), plc p f, .int 2] = .ret (.lst true [.int 0, .int 0]) [.lst false (iL ws), plc p 1, .int 2] := T.f p 2 f (by omega) (by decide)
theorem TkOk.sn {p : Nat} {f n : Int} (h0 : 0 ≤ n) (h : p + n.toNat ≤ ws.length) : call tk [.lst false (iL ws), plc p f, .int n] = .ret (.lst true (iL ((ws.drop p).take n.toNat))) [.lst false (iL ws), plc (p + n.toNat) f, .int n] := by
  have := T.s p n.toNat f h
  rw [Int.toNat_of_nonneg h0] at this
  exact this
theorem TkOk.fn {p : Nat} {f n : Int} (h0 : 0 ≤ n) (h : ¬ p + n.toNat ≤ ws.length) (hn : n ≤ 1000) : call tk [.lst false (iL ws), plc p f, .int n] = .ret (.lst true (List.replicate n.toNat [D.int 0]).flatten) [.lst false (iL ws), plc p 1, .int n] := by
  have := T.f p n.toNat f (by omega) (by omega)
  rw [Int.toNat_of_nonneg h0] at this
  exact this
omit T
/-- a turn's end -/
def rrE (R : D) (b s3 s4 s5 : Option D) (A : List D) (d s8 a9 a10 a11 : Option D) (q f : Int) : En := [some R, b, some (.lst true [.int q, .int f]), s3, s4, s5, some (.lst true A), d, s8, a9, a10, a11]
def rrO (f : Int) (E : En) : O := if f = 1 then .brk E else .nx E
section
variable {R : D} {b s3 s4 s5 d s8 s9 s10 s11 : Option D} {A : List D} {p f p1 f1 p2 f2 p3 f3 : Int}
theorem leafPut (hR : R.fz = true) (hA : A.length < sizeLine) {n : Int} {M : List D} (fM : fzL M = true) (t1 : call tk [R, .lst true [.int p, .int f], .int 1] = .ret (.lst true [.int 0]) [R, .lst true [.int p1, .int f1], .int 1]) (t2 : call tk [R, .lst true [.int p1, .int f1], .int 1] = .ret (.lst true [.int n]) [R, .lst true [.int p2, .int f2], .int 1]) (t3 : call tk [R, .lst true [.int p2, .int f2], .int n] = .ret (.lst true M) [R, .lst true [.int p3, .int f3], .int n]) :
    exs call W none (lpRR tk) (rrE R b s3 s4 s5 A d s8 s9 s10 s11 p f) = rrO f3 (rrE R b s3 s4 s5 (A ++ [.tup [.str "put", .tup M]]) d s8 (some (.int 0)) (some (.int n)) s11 p3 f3) := by
  have z2 := sz2
  unfold rrE rrO
  by_cases c : f3 = 1
  · rw [if_pos c]
    simp [lpRR, runFn, exs, ex, ev, evs, evA, back, sv, svs, Tg.bind, ixP, fins, B.asg, S.asg, Tg.asg, deq_int, atI_0, atI_1, hR, t1, t2, t3, fM, z2, mutD, hA, c]
  · rw [if_neg c]
    simp [lpRR, runFn, exs, ex, ev, evs, evA, back, sv, svs, Tg.bind, ixP, fins, B.asg, S.asg, Tg.asg, deq_int, atI_0, atI_1, hR, t1, t2, t3, fM, z2, mutD, hA, c]
theorem leafPlus (hR : R.fz = true) (hA : A.length < sizeLine) {n : Int} (t1 : call tk [R, .lst true [.int p, .int f], .int 1] = .ret (.lst true [.int 1]) [R, .lst true [.int p1, .int f1], .int 1]) (t2 : call tk [R, .lst true [.int p1, .int f1], .int 1] = .ret (.lst true [.int n]) [R, .lst true [.int p2, .int f2], .int 1]) :
    exs call W none (lpRR tk) (rrE R b s3 s4 s5 A d s8 s9 s10 s11 p f) = rrO f2 (rrE R b s3 s4 s5 (A ++ [.tup [.str "plus", .int n]]) d s8 (some (.int 1)) s10 s11 p2 f2) := by
  have z2 := sz2
  unfold rrE rrO
  by_cases c : f2 = 1
  · rw [if_pos c]
    simp [lpRR, runFn, exs, ex, ev, evs, evA, back, sv, svs, Tg.bind, ixP, fins, B.asg, S.asg, Tg.asg, deq_int, atI_0, atI_1, hR, t1, t2, z2, mutD, hA, c]
  · rw [if_neg c]
    simp [lpRR, runFn, exs, ex, ev, evs, evA, back, sv, svs, Tg.bind, ixP, fins, B.asg, S.asg, Tg.asg, deq_int, atI_0, atI_1, hR, t1, t2, z2, mutD, hA, c]
theorem leafOwn (hR : R.fz = true) (hA : A.length < sizeLine) {n m : Int} (t1 : call tk [R, .lst true [.int p, .int f], .int 1] = .ret (.lst true [.int 2]) [R, .lst true [.int p1, .int f1], .int 1]) (t2 : call tk [R, .lst true [.int p1, .int f1], .int 2] = .ret (.lst true [.int n, .int m]) [R, .lst true [.int p2, .int f2], .int 2]) :
    ∃ a11, exs call W none (lpRR tk) (rrE R b s3 s4 s5 A d s8 s9 s10 s11 p f) = rrO f2 (rrE R b s3 s4 s5 (A ++ [.tup [.str "own", .int n, .int m]]) d s8 (some (.int 2)) s10 a11 p2 f2) := by
  have z3 : (3 : Nat) ≤ sizeLine := by rw [sizeLine_eq]; decide
  refine ⟨some (.lst true [.int n, .int m]), ?_⟩
  unfold rrE rrO
  by_cases c : f2 = 1
  · rw [if_pos c]
    simp [lpRR, runFn, exs, ex, ev, evs, evA, back, sv, svs, Tg.bind, ixP, fins, B.asg, S.asg, Tg.asg, deq_int, atI_0, atI_1, hR, t1, t2, z3, mutD, hA, c]
  · rw [if_neg c]
    simp [lpRR, runFn, exs, ex, ev, evs, evA, back, sv, svs, Tg.bind, ixP, fins, B.asg, S.asg, Tg.asg, deq_int, atI_0, atI_1, hR, t1, t2, z3, mutD, hA, c]
theorem leafOdd (hR : R.fz = true) {n : Int} (h0 : n ≠ 0) (h1 : n ≠ 1) (h2 : n ≠ 2) (t1 : call tk [R, .lst true [.int p, .int f], .int 1] = .ret (.lst true [.int n]) [R, .lst true [.int p1, .int f1], .int 1]) :
    exs call W none (lpRR tk) (rrE R b s3 s4 s5 A d s8 s9 s10 s11 p f) = rrO 1 (rrE R b s3 s4 s5 A d s8 (some (.int n)) s10 s11 p1 1) := by
  unfold rrE rrO
  rw [if_pos rfl]
  simp [lpRR, runFn, exs, ex, ev, evs, evA, back, sv, svs, Tg.bind, ixP, fins, B.asg, S.asg, Tg.asg, deq_int, atI_0, atI_1, ixN, hR, t1, h0, h1, h2]
end
include T
/-- one turn: what is read, or the flag -/
theorem rr_one {b s3 s4 s5 d s8 s9 s10 s11 : Option D} (s : Sgs ws) {p : Nat} {f : Int} (hp : p ≤ ws.length) (hf : f = 0 ∨ f = 1) {A : List D} (hA : A.length < sizeLine) :
    ∃ q f' A' a9 a10 a11, q ≤ ws.length ∧ (f' = 0 ∨ f' = 1) ∧ exs call W none (lpRR tk) (rrE (.lst false (iL ws)) b s3 s4 s5 A d s8 s9 s10 s11 (p : Nat) f) = rrO f' (rrE (.lst false (iL ws)) b s3 s4 s5 A' d s8 a9 a10 a11 (q : Nat) f') ∧
      (∀ i q', rdIt ws p = some (i, q') → f' = f ∧ q = q' ∧ A' = A ++ [i.d]) ∧ (rdIt ws p = none → f' = 1) := by
  have hR : (D.lst false (iL ws)).fz = true := rfl
  have un : rdIt ws p = if p + 1 < ws.length then
    if gw ws p = 0 then (if ws.length < p + 2 + (gw ws (p + 1)).toNat then none else some (.put ((ws.drop (p + 2)).take (gw ws (p + 1)).toNat), p + 2 + (gw ws (p + 1)).toNat))
    else if gw ws p = 1 then some (.plus (gw ws (p + 1)), p + 2)
    else if gw ws p = 2 ∧ p + 2 < ws.length then some (.own (gw ws (p + 1)) (gw ws (p + 2)), p + 3)
    else none
    else none := rfl
  have no : ∀ {q : Nat} {A' : List D} {a9 a10 a11 : Option D}, rdIt ws p = none → q ≤ ws.length → exs call W none (lpRR tk) (rrE (.lst false (iL ws)) b s3 s4 s5 A d s8 s9 s10 s11 (p : Nat) f) = rrO 1 (rrE (.lst false (iL ws)) b s3 s4 s5 A' d s8 a9 a10 a11 (q : Nat) 1) → ∃ q f' A' a9 a10 a11, q ≤ ws.length ∧ (f' = 0 ∨ f' = 1) ∧ exs call W none (lpRR tk) (rrE (.lst false (iL ws)) b s3 s4 s5 A d s8 s9 s10 s11 (p : Nat) f) = rrO f' (rrE (.lst false (iL ws)) b s3 s4 s5 A' d s8 a9 a10 a11 (q : Nat) f') ∧
      (∀ i q', rdIt ws p = some (i, q') → f' = f ∧ q = q' ∧ A' = A ++ [i.d]) ∧ (rdIt ws p = none → f' = 1) := fun {q A' a9 a10 a11} e h g => ⟨q, 1, A', a9, a10, a11, h, .inr rfl, g, fun i q' k => (by rw [e] at k; cases k), fun _ => rfl⟩
  have yes : ∀ {q : Nat} {i : RIt} {a9 a10 a11 : Option D}, rdIt ws p = some (i, q) → q ≤ ws.length → exs call W none (lpRR tk) (rrE (.lst false (iL ws)) b s3 s4 s5 A d s8 s9 s10 s11 (p : Nat) f) = rrO f (rrE (.lst false (iL ws)) b s3 s4 s5 (A ++ [i.d]) d s8 a9 a10 a11 (q : Nat) f) → ∃ q f' A' a9 a10 a11, q ≤ ws.length ∧ (f' = 0 ∨ f' = 1) ∧ exs call W none (lpRR tk) (rrE (.lst false (iL ws)) b s3 s4 s5 A d s8 s9 s10 s11 (p : Nat) f) = rrO f' (rrE (.lst false (iL ws)) b s3 s4 s5 A' d s8 a9 a10 a11 (q : Nat) f') ∧
      (∀ i q', rdIt ws p = some (i, q') → f' = f ∧ q = q' ∧ A' = A ++ [i.d]) ∧ (rdIt ws p = none → f' = 1) := fun {q i a9 a10 a11} e h g => ⟨q, f, _, a9, a10, a11, h, hf, g, fun j q' k => (by rw [e] at k; cases k; exact ⟨rfl, rfl, rfl⟩), fun k => (by rw [e] at k; cases k)⟩
  by_cases h0 : p < ws.length
  · have t1 := T.s1 (f := f) h0
    by_cases c0 : gw ws p = 0
    · rw [c0] at t1
      by_cases h1 : p + 1 < ws.length
      · rw [if_pos h1, if_pos c0] at un
        have z := s.gw h1
        have t2 := T.s1 (f := f) h1
        by_cases hb : p + 2 + (gw ws (p + 1)).toNat ≤ ws.length
        · rw [if_neg (by omega)] at un
          exact yes un hb (leafPut hR hA fzL_ints t1 t2 (T.sn z.1 hb))
        · rw [if_pos (by omega)] at un
          exact no un (by omega) (leafPut hR hA (zeros_fz _) t1 t2 (T.fn (p := p + 2) z.1 hb (by have := z.2; omega)))
      · rw [if_neg h1] at un
        exact no un (by omega) (leafPut hR hA (M := iL ((ws.drop (p + 1)).take (0 : Int).toNat)) fzL_ints t1 (T.f1 h1) (T.sn (p := p + 1) (by decide) (by show p + 1 + 0 ≤ _; omega)))
    · by_cases c1 : gw ws p = 1
      · rw [c1] at t1
        by_cases h1 : p + 1 < ws.length
        · rw [if_pos h1, if_neg c0, if_pos c1] at un
          exact yes un (by omega) (leafPlus hR hA t1 (T.s1 (f := f) h1))
        · rw [if_neg h1] at un
          exact no un (by omega) (leafPlus hR hA t1 (T.f1 h1))
      · by_cases c2 : gw ws p = 2
        · rw [c2] at t1
          by_cases h2 : p + 2 < ws.length
          · rw [if_pos (by omega), if_neg c0, if_neg c1, if_pos ⟨c2, h2⟩] at un
            obtain ⟨a11, g⟩ := leafOwn (W := W) (b := b) (s3 := s3) (s4 := s4) (s5 := s5) (d := d) (s8 := s8) (s9 := s9) (s10 := s10) (s11 := s11) hR hA t1 (T.s2 (p := p + 1) (f := f) h2)
            exact yes un (by omega) g
          · have un2 : rdIt ws p = none := by
              rw [un]
              split
              · rw [if_neg (fun k : gw ws p = 2 ∧ p + 2 < ws.length => h2 k.2)]
              · rfl
            obtain ⟨a11, g⟩ := leafOwn (W := W) (b := b) (s3 := s3) (s4 := s4) (s5 := s5) (d := d) (s8 := s8) (s9 := s9) (s10 := s10) (s11 := s11) hR hA t1 (T.f2 (p := p + 1) (f := f) h2)
            exact no un2 (by omega) g
        · have un2 : rdIt ws p = none := by
            rw [un]
            split
            · rw [if_neg (fun k : gw ws p = 2 ∧ p + 2 < ws.length => c2 k.1)]
            · rfl
          exact no un2 (by omega) (leafOdd hR c0 c1 c2 t1)
  · have un2 : rdIt ws p = none := by rw [un, if_neg (by omega)]
    exact no un2 hp (leafPut hR hA (M := iL ((ws.drop p).take (0 : Int).toNat)) fzL_ints (T.f1 h0) (T.f1 h0) (T.sn (p := p) (by decide) (by show p + 0 ≤ _; omega)))
theorem rr_go {b s3 s4 s5 s8 : Option D} (s : Sgs ws) : ∀ (ds : List D) (p : Nat) (f : Int) (A : List D) (s7 s9 s10 s11 : Option D), p ≤ ws.length → (f = 0 ∨ f = 1) → A.length + ds.length ≤ sizeLine →
    ∃ q f' A' a7 a9 a10 a11, q ≤ ws.length ∧ (f' = 0 ∨ f' = 1) ∧ forGo (.nm 7) (exs call W none (lpRR tk)) ds (rrE (.lst false (iL ws)) b s3 s4 s5 A s7 s8 s9 s10 s11 (p : Nat) f) = .nx (rrE (.lst false (iL ws)) b s3 s4 s5 A' a7 s8 a9 a10 a11 (q : Nat) f') ∧
      (∀ is q', f = 0 → rdIts ws ds.length p = some (is, q') → f' = 0 ∧ q = q' ∧ A' = A ++ is.map RIt.d) ∧ (f = 0 → rdIts ws ds.length p = none → f' = 1) ∧ (f = 1 → f' = 1)
  | [], p, f, A, s7, s9, s10, s11, hp, hf, _ => ⟨p, f, A, s7, s9, s10, s11, hp, hf, by simp [forGo], fun is q' k e => by
      have e : some (([] : List RIt), p) = some (is, q') := e
      cases e
      exact ⟨k, rfl, by simp⟩, fun _ e => (by cases e), fun k => k⟩
  | d :: ds, p, f, A, s7, s9, s10, s11, hp, hf, hl => by
    have hl' : A.length + (ds.length + 1) ≤ sizeLine := hl
    obtain ⟨q, f1, A1, a9, a10, a11, hq, hf1, g, k1, k2⟩ := rr_one T (W := W) (b := b) (s3 := s3) (s4 := s4) (s5 := s5) (d := some d) (s8 := s8) (s9 := s9) (s10 := s10) (s11 := s11) s hp hf (A := A) (by omega)
    have st : forGo (.nm 7) (exs call W none (lpRR tk)) (d :: ds) (rrE (.lst false (iL ws)) b s3 s4 s5 A s7 s8 s9 s10 s11 (p : Nat) f) = turnO (exs call W none (lpRR tk) (rrE (.lst false (iL ws)) b s3 s4 s5 A (some d) s8 s9 s10 s11 (p : Nat) f)) (forGo (.nm 7) (exs call W none (lpRR tk)) ds) := forGo_nm (by simp [rrE])
    rw [st, g]
    have un : rdIts ws (ds.length + 1) p = match rdIt ws p with | none => none | some (i, q) => match rdIts ws ds.length q with | none => none | some (is, e) => some (i :: is, e) := rfl
    rw [List.length_cons, un]
    rcases hf1 with rfl | rfl
    · -- on it goes
      cases e : rdIt ws p with
      | none => cases k2 e
      | some v =>
        obtain ⟨i, q1⟩ := v
        obtain ⟨x1, rfl, rfl⟩ := k1 i q1 e
        subst x1
        obtain ⟨q2, f2, A2, b7, b9, b10, b11, hq2, hf2, g2, m1, m2, m3⟩ := rr_go s ds q 0 (A ++ [i.d]) (some d) a9 a10 a11 hq (.inl rfl) (by rw [List.length_append, List.length_singleton]; omega)
        refine ⟨q2, f2, A2, b7, b9, b10, b11, hq2, hf2, ?_, fun is q' _ k => ?_, fun _ k => ?_, fun k => by cases k⟩
        · rw [show rrO 0 (rrE (.lst false (iL ws)) b s3 s4 s5 (A ++ [i.d]) (some d) s8 a9 a10 a11 (q : Nat) 0) = .nx (rrE (.lst false (iL ws)) b s3 s4 s5 (A ++ [i.d]) (some d) s8 a9 a10 a11 (q : Nat) 0) from if_neg (by decide)]
          exact g2
        · cases e2 : rdIts ws ds.length q with
          | none => simp only [e2] at k; cases k
          | some v2 =>
            obtain ⟨js, q3⟩ := v2
            simp only [e2] at k
            cases k
            obtain ⟨y1, y2, y3⟩ := m1 js q' rfl e2
            exact ⟨y1, y2, by rw [y3, List.append_assoc] <;> rfl⟩
        · cases e2 : rdIts ws ds.length q with
          | none => exact m2 rfl e2
          | some v2 => simp only [e2] at k; cases k
    · refine ⟨q, 1, A1, some d, a9, a10, a11, hq, .inr rfl, ?_, fun is q' k0 k => ?_, fun _ _ => rfl, fun _ => rfl⟩
      · rw [show rrO 1 (rrE (.lst false (iL ws)) b s3 s4 s5 A1 (some d) s8 a9 a10 a11 (q : Nat) 1) = .brk (rrE (.lst false (iL ws)) b s3 s4 s5 A1 (some d) s8 a9 a10 a11 (q : Nat) 1) from if_pos rfl]
        rfl
      · cases e : rdIt ws p with
        | none => simp only [e] at k; cases k
        | some v =>
          obtain ⟨i, q1⟩ := v
          obtain ⟨x1, _, _⟩ := k1 i q1 e
          rw [k0] at x1
          cases x1
omit T in
@[simp] theorem asg_lpRR {tk} : (lpRR tk).asg = [9, 10, 11] := rfl
theorem rr_items {b s3 s4 s5 : Option D} (s : Sgs ws) {p : Nat} {f : Int} (hp : p ≤ ws.length) (hf : f = 0 ∨ f = 1) : ∃ q f' A' a7 a9 a10 a11, q ≤ ws.length ∧ (f' = 0 ∨ f' = 1) ∧ ex call W none (sRR6 tk) (rrE (.lst false (iL ws)) b s3 s4 s5 [] none none none none none (p : Nat) f) = .nx (rrE (.lst false (iL ws)) b s3 s4 s5 A' a7 none a9 a10 a11 (q : Nat) f') ∧
      (∀ is q', f = 0 → p < ws.length → rdIts ws (gw ws p).toNat (p + 1) = some (is, q') → f' = 0 ∧ q = q' ∧ A' = is.map RIt.d) ∧ (f = 0 → p < ws.length → rdIts ws (gw ws p).toNat (p + 1) = none → f' = 1) ∧ (¬ p < ws.length → f' = 1) ∧ (f = 1 → f' = 1) := by
  have hR : (D.lst false (iL ws)).fz = true := rfl
  -- the number, the loop
  have go : ∀ {n : Int} {p1 : Nat} {f1 : Int} {E1 : En}, 0 ≤ n → n < 100 → call tk [.lst false (iL ws), plc p f, .int 1] = .ret (.lst true [.int n]) [.lst false (iL ws), plc p1 f1, .int 1] → forGo (.nm 7) (exs call W none (lpRR tk)) (rngD 0 n) (rrE (.lst false (iL ws)) b s3 s4 s5 [] none none none none none (p1 : Nat) f1) = .nx E1 → ex call W none (sRR6 tk) (rrE (.lst false (iL ws)) b s3 s4 s5 [] none none none none none (p : Nat) f) = .nx E1 := fun {n p1 f1 E1} z0 z1 t g => by
    have sm := sm62 z0 (by omega)
    unfold rrE at g ⊢
    simp only [plc] at t
    generalize D.lst false (iL ws) = R at t g hR ⊢
    generalize (p : Int) = p at *
    generalize (p1 : Int) = p1 at *
    simp [sRR6, runFn, exs, ex, ev, evs, evA, back, sv, svs, Tg.bind, ixP, fins, B.asg, S.asg, Tg.asg, deq_int, evSrc, atI_0, hR, t, sm, g]
  by_cases h0 : p < ws.length
  · have z := s.gw h0
    obtain ⟨q, f', A', a7, a9, a10, a11, hq, hf', g, k1, k2, k3⟩ := rr_go T (W := W) (b := b) (s3 := s3) (s4 := s4) (s5 := s5) (s8 := none) s (rngD 0 (gw ws p)) (p + 1) f [] none none none none (by omega) hf (by rw [rng_len, sizeLine_eq]; have := z.2; simp; omega)
    rw [rng_len] at k1 k2
    refine ⟨q, f', A', a7, a9, a10, a11, hq, hf', go z.1 z.2 (T.s1 h0) g, fun is q' k _ e => by simpa using k1 is q' k e, fun k _ e => k2 k e, fun h => absurd h0 h, k3⟩
  · refine ⟨p, 1, [], none, none, none, none, hp, .inr rfl, go (n := 0) (by decide) (by decide) (T.f1 h0) (by simp [rngD, forGo]), fun _ _ _ h => absurd h h0, fun _ h => absurd h h0, fun _ => rfl, fun _ => rfl⟩
theorem rr_head (s : Sgs ws) {b : Nat} (hb : b < ws.length) (r : B) : ∃ q f kind w, q ≤ ws.length ∧ (f = 0 ∨ f = 1) ∧ w.fz = true ∧ (∀ o, (∀ E, E = (rrE (.lst false (iL ws)) (some (.int (b : Nat))) (some (.int (gw ws b))) (some (.int kind)) (some w) [] none none none none none (q : Nat) f) → exs call W none r E = o) → exs call W none (.cons (sRR0 tk) (.cons (sRR1 tk) (.cons (sRR2 tk) (.cons (sRR3 tk) (.cons (sRR4 tk) (.cons (sRR5 tk) r)))))) [some (.lst false (iL ws)), some (.int (b : Nat)), none, none, none, none, none, none, none, none, none, none] = o) ∧
    (∀ wd q', rdWd ws (b + 1) = some (wd, q') → f = 0 ∧ q = q' ∧ w = wd.d ∧ (kind = 2 ↔ wd.isFin = true)) ∧ (rdWd ws (b + 1) = none → f = 1) := by
  have hR : (D.lst false (iL ws)).fz = true := rfl
  have z2 := sz2
  have t1 := T.s1 (f := 0) hb
  -- the steps, with what the takes give
  have go : ∀ {kn : Int} {p2 q : Nat} {f2 f : Int} {w : D}, call tk [.lst false (iL ws), plc (b + 1) 0, .int 1] = .ret (.lst true [.int kn]) [.lst false (iL ws), plc p2 f2, .int 1] →
      ex call W none (sRR4 tk) (([some (.lst false (iL ws)), some (.int (b : Nat)), some (plc p2 f2), some (.int (gw ws b)), some (.int kn), some (.str "other"), none, none, none, none, none, none] : En)) = .nx [some (.lst false (iL ws)), some (.int (b : Nat)), some (plc q f), some (.int (gw ws b)), some (.int kn), some w, none, none, none, none, none, none] →
      (∀ o, (∀ E, E = (rrE (.lst false (iL ws)) (some (.int (b : Nat))) (some (.int (gw ws b))) (some (.int kn)) (some w) [] none none none none none (q : Nat) f) → exs call W none r E = o) → exs call W none (.cons (sRR0 tk) (.cons (sRR1 tk) (.cons (sRR2 tk) (.cons (sRR3 tk) (.cons (sRR4 tk) (.cons (sRR5 tk) r)))))) [some (.lst false (iL ws)), some (.int (b : Nat)), none, none, none, none, none, none, none, none, none, none] = o) := fun {kn p2 q f2 f w} t2 h4 o fin => by
    refine exs_step (E1 := [some (.lst false (iL ws)), some (.int (b : Nat)), some (plc b 0), none, none, none, none, none, none, none, none, none]) ?_ ?_
    · simp only [plc]
      generalize (b : Int) = b at *
      generalize D.lst false (iL ws) = R at *
      simp [sRR0, runFn, exs, ex, ev, evs, evA, back, sv, svs, Tg.bind, ixP, fins, B.asg, S.asg, Tg.asg, deq_int, z2]
    refine exs_step (E1 := [some (.lst false (iL ws)), some (.int (b : Nat)), some (plc (b + 1) 0), some (.int (gw ws b)), none, none, none, none, none, none, none, none]) ?_ ?_
    · simp only [plc] at t1 ⊢
      generalize D.lst false (iL ws) = R at *
      generalize ((b + 1 : Nat) : Int) = b1 at *
      generalize (b : Int) = b at *
      simp [sRR1, runFn, exs, ex, ev, evs, evA, back, sv, svs, Tg.bind, ixP, fins, B.asg, S.asg, Tg.asg, deq_int, atI_0, hR, t1]
    refine exs_step (E1 := [some (.lst false (iL ws)), some (.int (b : Nat)), some (plc p2 f2), some (.int (gw ws b)), some (.int kn), none, none, none, none, none, none, none]) ?_ ?_
    · simp only [plc] at t2 ⊢
      generalize D.lst false (iL ws) = R at *
      generalize ((b + 1 : Nat) : Int) = b1 at *
      generalize (b : Int) = b at *
      generalize (p2 : Int) = p2 at *
      simp [sRR2, runFn, exs, ex, ev, evs, evA, back, sv, svs, Tg.bind, ixP, fins, B.asg, S.asg, Tg.asg, deq_int, atI_0, hR, t2]
    refine exs_step (E1 := [some (.lst false (iL ws)), some (.int (b : Nat)), some (plc p2 f2), some (.int (gw ws b)), some (.int kn), some (.str "other"), none, none, none, none, none, none]) ?_ ?_
    · generalize plc p2 f2 = Y at *
      generalize D.lst false (iL ws) = R at *
      generalize (b : Int) = b at *
      simp [sRR3, runFn, exs, ex, ev, evs, evA, back, sv, svs, Tg.bind, ixP, fins, B.asg, S.asg, Tg.asg, deq_int]
    refine exs_step h4 ?_
    refine exs_step (E1 := rrE (.lst false (iL ws)) (some (.int (b : Nat))) (some (.int (gw ws b))) (some (.int kn)) (some w) [] none none none none none (q : Nat) f) ?_ (fin _ rfl)
    unfold rrE
    simp only [plc]
    generalize D.lst false (iL ws) = R at *
    generalize (b : Int) = b at *
    generalize (q : Int) = q at *
    simp [sRR5, runFn, exs, ex, ev, evs, evA, back, sv, svs, Tg.bind, ixP, fins, B.asg, S.asg, Tg.asg, deq_int]
  have un : rdWd ws (b + 1) = if b + 1 < ws.length then
    if gw ws (b + 1) = 1 then some (.other, b + 1 + 1)
    else if gw ws (b + 1) = 2 then some (.fin, b + 1 + 1)
    else if gw ws (b + 1) = 0 ∧ b + 1 + 1 < ws.length then some (.sg (gw ws (b + 1 + 1)), b + 1 + 2)
    else none
    else none := rfl
  -- the fifth statement
  have w2 : ∀ {p2 : Nat} {f2 : Int} {R : D} {bb g : Option D}, ex call W none (sRR4 tk) (([some R, bb, some (plc p2 f2), g, some (.int 2), some (.str "other"), none, none, none, none, none, none] : En)) = .nx [some R, bb, some (plc p2 f2), g, some (.int 2), some (.str "end"), none, none, none, none, none, none] := fun {p2 f2 R bb g} => by
    generalize plc p2 f2 = Y
    simp [sRR4, runFn, exs, ex, ev, evs, evA, back, sv, svs, Tg.bind, ixP, fins, B.asg, S.asg, Tg.asg, deq_int]
  have w1 : ∀ {p2 : Nat} {f2 : Int} {R : D} {bb g : Option D}, ex call W none (sRR4 tk) (([some R, bb, some (plc p2 f2), g, some (.int 1), some (.str "other"), none, none, none, none, none, none] : En)) = .nx [some R, bb, some (plc p2 f2), g, some (.int 1), some (.str "other"), none, none, none, none, none, none] := fun {p2 f2 R bb g} => by
    generalize plc p2 f2 = Y
    simp [sRR4, runFn, exs, ex, ev, evs, evA, back, sv, svs, Tg.bind, ixP, fins, B.asg, S.asg, Tg.asg, deq_int]
  have w0 : ∀ {p2 p3 : Nat} {f2 f3 a : Int} {R : D} {bb g : Option D}, R.fz = true → call tk [R, plc p2 f2, .int 1] = .ret (.lst true [.int a]) [R, plc p3 f3, .int 1] → ex call W none (sRR4 tk) (([some R, bb, some (plc p2 f2), g, some (.int 0), some (.str "other"), none, none, none, none, none, none] : En)) = .nx [some R, bb, some (plc p3 f3), g, some (.int 0), some (.int a), none, none, none, none, none, none] := fun {p2 p3 f2 f3 a R bb g} hR t => by
    simp only [plc] at t ⊢
    generalize (p2 : Int) = p2 at *
    generalize (p3 : Int) = p3 at *
    simp [sRR4, runFn, exs, ex, ev, evs, evA, back, sv, svs, Tg.bind, ixP, fins, B.asg, S.asg, Tg.asg, deq_int, atI_0, hR, t]
  have wo : ∀ {p2 : Nat} {f2 kn : Int} {R : D} {bb g : Option D}, kn ≠ 2 → kn ≠ 0 → kn ≠ 1 → ex call W none (sRR4 tk) (([some R, bb, some (plc p2 f2), g, some (.int kn), some (.str "other"), none, none, none, none, none, none] : En)) = .nx [some R, bb, some (plc p2 1), g, some (.int kn), some (.str "other"), none, none, none, none, none, none] := fun {p2 f2 kn R bb g} h2 h0 h1 => by
    simp only [plc]
    generalize (p2 : Int) = p2 at *
    simp [sRR4, runFn, exs, ex, ev, evs, evA, back, sv, svs, atI, ixN, Tg.bind, ixP, fins, B.asg, S.asg, Tg.asg, deq_int, h0, h1, h2]
  by_cases h1 : b + 1 < ws.length
  · rw [if_pos h1] at un
    have t2 := T.s1 (f := 0) h1
    by_cases c1 : gw ws (b + 1) = 1
    · rw [if_pos c1] at un
      rw [c1] at t2
      exact ⟨b + 1 + 1, 0, 1, .str "other", by omega, .inl rfl, rfl, go t2 w1, fun wd q' e => (by rw [un] at e; cases e; exact ⟨rfl, rfl, rfl, by simp [RWd.isFin]⟩), fun e => (by rw [un] at e; cases e)⟩
    · rw [if_neg c1] at un
      by_cases c2 : gw ws (b + 1) = 2
      · rw [if_pos c2] at un
        rw [c2] at t2
        exact ⟨b + 1 + 1, 0, 2, .str "end", by omega, .inl rfl, rfl, go t2 w2, fun wd q' e => (by rw [un] at e; cases e; exact ⟨rfl, rfl, rfl, by simp [RWd.isFin]⟩), fun e => (by rw [un] at e; cases e)⟩
      · rw [if_neg c2] at un
        by_cases c0 : gw ws (b + 1) = 0
        · rw [c0] at t2
          by_cases h2 : b + 1 + 1 < ws.length
          · rw [if_pos ⟨c0, h2⟩] at un
            exact ⟨b + 1 + 1 + 1, 0, 0, .int (gw ws (b + 1 + 1)), by omega, .inl rfl, rfl, go t2 (w0 hR (T.s1 h2)), fun wd q' e => (by rw [un] at e; cases e; exact ⟨rfl, rfl, rfl, by simp [RWd.isFin]⟩), fun e => (by rw [un] at e; cases e)⟩
          · rw [if_neg fun k => h2 k.2] at un
            exact ⟨b + 1 + 1, 1, 0, .int 0, by omega, .inr rfl, rfl, go t2 (w0 hR (T.f1 h2)), fun wd q' e => (by rw [un] at e; cases e), fun _ => rfl⟩
        · rw [if_neg fun k => c0 k.1] at un
          exact ⟨b + 1 + 1, 1, gw ws (b + 1), .str "other", by omega, .inr rfl, rfl, go t2 (wo c2 c0 c1), fun wd q' e => (by rw [un] at e; cases e), fun _ => rfl⟩
  · rw [if_neg h1] at un
    have t2 := T.f1 (p := b + 1) (f := 0) h1
    exact ⟨b + 1, 1, 0, .int 0, by omega, .inr rfl, rfl, go t2 (w0 hR (T.f1 h1)), fun wd q' e => (by rw [un] at e; cases e), fun _ => rfl⟩
def lrO : Option (RRu × Nat) → D
  | none => .non
  | some (r, q) => .lst true [r.d, .int (q : Nat)]
abbrev tailRR (tk : Nat) : B := .cons (sRR7 tk) (.cons (sRR8 tk) (.cons (sRR9 tk) (.cons (sRR10 tk) .nil)))
omit T in
theorem rr_ret0 {R : D} {b a7 s8 a9 a10 a11 : Option D} {st kind q : Int} {w : D} {A : List D} : exs call W none (.cons (sRR9 tk) (.cons (sRR10 tk) .nil)) (rrE R b (some (.int st)) (some (.int kind)) (some w) A a7 s8 a9 a10 a11 q 1) = .rt .non (rrE R b (some (.int st)) (some (.int kind)) (some w) A a7 s8 a9 a10 a11 q 1) := by
  unfold rrE
  simp [sRR9, sRR10, runFn, exs, ex, ev, evs, evA, back, sv, svs, Tg.bind, ixP, fins, B.asg, S.asg, Tg.asg, deq_int, atI_1]
omit T in
theorem rr_ret1 {R s8 : D} {b a7 a9 a10 a11 : Option D} {st kind q : Int} {w : D} {A : List D} (hw : w.fz = true) (h8 : s8.fz = true) (hA : fzL A = true) : exs call W none (.cons (sRR9 tk) (.cons (sRR10 tk) .nil)) (rrE R b (some (.int st)) (some (.int kind)) (some w) A a7 (some s8) a9 a10 a11 q 0) = .rt (.lst true [.tup [.int st, w, .tup A, s8], .int q]) (rrE R b (some (.int st)) (some (.int kind)) (some w) A a7 (some s8) a9 a10 a11 q 0) := by
  have z2 := sz2
  have z4 : (4 : Nat) ≤ sizeLine := by rw [sizeLine_eq]; decide
  have tw : w.topfz = w := by cases w <;> first | rfl | (rename_i o _; cases o; rfl; cases hw)
  have t8 : s8.topfz = s8 := by cases s8 <;> first | rfl | (rename_i o _; cases o; rfl; cases h8)
  unfold rrE
  simp [sRR9, sRR10, runFn, exs, ex, ev, evs, evA, back, sv, svs, Tg.bind, ixP, fins, B.asg, S.asg, Tg.asg, deq_int, atI_0, atI_1, hw, h8, hA, z2, z4, tw, t8]
omit T in
theorem rr_7 {R : D} {b s3 s4 s5 a7 s8 a9 a10 a11 : Option D} {q f : Int} {A : List D} : ex call W none (sRR7 tk) (rrE R b s3 s4 s5 A a7 s8 a9 a10 a11 q f) = .nx (rrE R b s3 s4 s5 A a7 (some .non) a9 a10 a11 q f) := by
  unfold rrE
  simp [sRR7, runFn, exs, ex, ev, evs, evA, back, sv, svs, Tg.bind, ixP, fins, B.asg, S.asg, Tg.asg, deq_int]
omit T in
theorem rr_8e {R : D} {b s3 s5 a7 s8 a9 a10 a11 : Option D} {q f : Int} {A : List D} : ex call W none (sRR8 tk) (rrE R b s3 (some (.int 2)) s5 A a7 s8 a9 a10 a11 q f) = .nx (rrE R b s3 (some (.int 2)) s5 A a7 s8 a9 a10 a11 q f) := by
  unfold rrE
  simp [sRR8, runFn, exs, ex, ev, evs, evA, back, sv, svs, Tg.bind, ixP, fins, B.asg, S.asg, Tg.asg, deq_int]
omit T in
theorem rr_8n {R : D} {b s3 s5 a7 s8 a9 a10 a11 : Option D} {q q2 f f2 kind a : Int} {A : List D} (hR : R.fz = true) (hk : kind ≠ 2) (t : call tk [R, .lst true [.int q, .int f], .int 1] = .ret (.lst true [.int a]) [R, .lst true [.int q2, .int f2], .int 1]) : ex call W none (sRR8 tk) (rrE R b s3 (some (.int kind)) s5 A a7 s8 a9 a10 a11 q f) = .nx (rrE R b s3 (some (.int kind)) s5 A a7 (some (.int a)) a9 a10 a11 q2 f2) := by
  unfold rrE
  simp [sRR8, runFn, exs, ex, ev, evs, evA, back, sv, svs, Tg.bind, ixP, fins, B.asg, S.asg, Tg.asg, deq_int, hk, hR, t, atI_0]
/-- the flag, once set -/
theorem rr_flag {b a7 s8 a9 a10 a11 : Option D} {st kind : Int} {w : D} {A : List D} {q : Nat} : ∃ E', exs call W none (tailRR tk) (rrE (.lst false (iL ws)) b (some (.int st)) (some (.int kind)) (some w) A a7 s8 a9 a10 a11 (q : Nat) 1) = .rt .non E' ∧ E'[0]? = some (some (.lst false (iL ws))) ∧ E'[1]? = some b := by
  have hR : (D.lst false (iL ws)).fz = true := rfl
  by_cases hk : kind = 2
  · subst hk
    exact ⟨_, exs_step rr_7 (exs_step rr_8e rr_ret0), rfl, rfl⟩
  · by_cases h : q < ws.length
    · exact ⟨_, exs_step rr_7 (exs_step (rr_8n hR hk (T.s1 (f := 1) h)) rr_ret0), rfl, rfl⟩
    · exact ⟨_, exs_step rr_7 (exs_step (rr_8n hR hk (T.f1 (f := 1) h)) rr_ret0), rfl, rfl⟩
theorem readRule (s : Sgs ws) {b : Nat} (hb : b < ws.length) : runFn call W (fnReadRule tk) [.lst false (iL ws), .int (b : Nat)] = .ret (lrO (rdRu ws b)) [.lst false (iL ws), .int (b : Nat)] := by
  have hR : (D.lst false (iL ws)).fz = true := rfl
  obtain ⟨q, f, kind, w, hq, hf, hw, step, k1, k2⟩ := rr_head T (W := W) s hb (.cons (sRR6 tk) (tailRR tk))
  obtain ⟨q2, f2, A, a7, a9, a10, a11, hq2, hf2, g, m1, m2, m3, m4⟩ := rr_items T (W := W) (b := some (.int (b : Nat))) (s3 := some (.int (gw ws b))) (s4 := some (.int kind)) (s5 := some w) s hq hf
  have a0 : (0 : Nat) ∉ (fnReadRule tk).body.asg := by simp [fnReadRule, sRR0, sRR1, sRR2, sRR3, sRR4, sRR5, sRR6, sRR7, sRR8, sRR9, sRR10, B.asg, S.asg, Tg.asg]
  have a1 : (1 : Nat) ∉ (fnReadRule tk).body.asg := by simp [fnReadRule, sRR0, sRR1, sRR2, sRR3, sRR4, sRR5, sRR6, sRR7, sRR8, sRR9, sRR10, B.asg, S.asg, Tg.asg]
  have fin : ∀ {d : D} {E' : En}, exs call W none (tailRR tk) (rrE (.lst false (iL ws)) (some (.int (b : Nat))) (some (.int (gw ws b))) (some (.int kind)) (some w) A a7 none a9 a10 a11 (q2 : Nat) f2) = .rt d E' → E'[0]? = some (some (.lst false (iL ws))) → E'[1]? = some (some (.int (b : Nat))) → runFn call W (fnReadRule tk) [.lst false (iL ws), .int (b : Nat)] = .ret d [.lst false (iL ws), .int (b : Nat)] := fun {d E'} h e0 e1 => by
    refine runFn_rt (E1 := E') rfl (show 2 ≤ 12 by decide) (step _ fun E hE => ?_) ?_
    · rw [hE]
      exact exs_step g h
    · simp only [fins, if_neg a0, Nat.zero_add, if_neg a1, e0, e1, Option.join_some]
  have flag : f2 = 1 → rdRu ws b = none → runFn call W (fnReadRule tk) [.lst false (iL ws), .int (b : Nat)] = .ret (lrO (rdRu ws b)) [.lst false (iL ws), .int (b : Nat)] := fun h e => by
    subst h
    obtain ⟨E', h1, h2, h3⟩ := rr_flag T (W := W) (b := some (.int (b : Nat))) (a7 := a7) (s8 := none) (a9 := a9) (a10 := a10) (a11 := a11) (st := gw ws b) (kind := kind) (w := w) (A := A) (q := q2)
    rw [e]
    exact fin h1 h2 h3
  have un : rdRu ws b = match rdWd ws (b + 1) with
    | none => none
    | some (w, q) => if q < ws.length then (match rdIts ws (gw ws q).toNat (q + 1) with
      | none => none
      | some (is, e) => if w.isFin = true then some (⟨gw ws b, w, is, none⟩, e) else if e < ws.length then some (⟨gw ws b, w, is, some (gw ws e)⟩, e + 1) else none) else none := rfl
  cases e1 : rdWd ws (b + 1) with
  | none =>
    simp only [e1] at un
    exact flag (m4 (k2 e1)) un
  | some v =>
    obtain ⟨wd, q'⟩ := v
    simp only [e1] at un
    obtain ⟨rfl, rfl, rfl, hk⟩ := k1 wd q' e1
    by_cases hql : q < ws.length
    · rw [if_pos hql] at un
      cases e2 : rdIts ws (gw ws q).toNat (q + 1) with
      | none =>
        simp only [e2] at un
        exact flag (m2 rfl hql e2) un
      | some v2 =>
        obtain ⟨is, e⟩ := v2
        simp only [e2] at un
        obtain ⟨rfl, rfl, rfl⟩ := m1 is e rfl hql e2
        have fA : fzL (is.map RIt.d) = true := fzL_its _
        by_cases hwf : wd.isFin = true
        · rw [if_pos hwf] at un
          have hk2 := hk.mpr hwf
          subst hk2
          rw [un]
          exact fin (exs_step rr_7 (exs_step rr_8e (rr_ret1 hw rfl fA))) rfl rfl
        · rw [if_neg hwf] at un
          have hk2 : kind ≠ 2 := fun k => hwf (hk.mp k)
          by_cases he : q2 < ws.length
          · rw [if_pos he] at un
            rw [un]
            exact fin (exs_step rr_7 (exs_step (rr_8n hR hk2 (T.s1 (f := 0) he)) (rr_ret1 hw rfl fA))) rfl rfl
          · rw [if_neg he] at un
            rw [un]
            exact fin (exs_step rr_7 (exs_step (rr_8n hR hk2 (T.f1 (f := 0) he)) rr_ret0)) rfl rfl
    · rw [if_neg hql] at un
      exact flag (m3 hql) un
end
/-- the law's reading of a row -/
@[simp] theorem asg_lpRd {rr} : (lpRd rr).asg = [4, 2] := rfl
theorem rd_go {rr : Nat} {ws : List Int} (s : Sgs ws) (hc : ∀ p : Nat, p < ws.length → call rr [.lst false (iL ws), .int (p : Nat)] = .ret (lrO (rdRu ws p)) [.lst false (iL ws), .int (p : Nat)]) : ∀ (ds : List D) (p : Nat) (acc : List RRu) (x y : Option D), acc.length + ds.length ≤ sizeLine →
    ∃ x' y', forGo (.nm 3) (exs call W none (lpRd rr)) ds [some (.lst false (iL ws)), some (.lst true (acc.map RRu.d)), some (.int (p : Nat)), x, y] = .nx [some (.lst false (iL ws)), some (.lst true ((acc ++ (rds ws ds.length p).1).map RRu.d)), some (.int ((rds ws ds.length p).2 : Nat)), x', y']
  | [], p, acc, x, y, _ => ⟨x, y, by simp [forGo, rds]⟩
  | d :: ds, p, acc, x, y, hl => by
    have hl' : acc.length + (ds.length + 1) ≤ sizeLine := hl
    have lt : acc.length < sizeLine := by omega
    have hL : ((iL ws).length : Int) = (ws.length : Int) := by rw [List.length_map]
    rw [forGo_nm (by simp)]
    show ∃ x' y', turnO (exs call W none (lpRd rr) [some (.lst false (iL ws)), some (.lst true (acc.map RRu.d)), some (.int (p : Nat)), some d, y]) (forGo (.nm 3) (exs call W none (lpRd rr)) ds) = _
    by_cases h : p < ws.length
    · have un : rds ws (ds.length + 1) p = match rdRu ws p with | none => ([], p) | some (r, q) => (r :: (rds ws ds.length q).1, (rds ws ds.length q).2) := by
        show (if p < ws.length then (match rdRu ws p with | none => ([], p) | some (r, q) => (r :: (rds ws ds.length q).1, (rds ws ds.length q).2)) else ([], p)) = _
        rw [if_pos h]
      have c := hc p h
      have h' : ¬ ((ws.length : Int) ≤ (p : Int)) := by omega
      cases e : rdRu ws p with
      | none =>
        simp only [e] at un
        rw [e] at c
        have e1 : exs call W none (lpRd rr) [some (.lst false (iL ws)), some (.lst true (acc.map RRu.d)), some (.int (p : Nat)), some d, y] = .brk [some (.lst false (iL ws)), some (.lst true (acc.map RRu.d)), some (.int (p : Nat)), some d, some .non] := by
          generalize (ws.length : Int) = n at *
          generalize (p : Int) = z at *
          generalize iL ws = L at hL c ⊢
          simp [lpRd, runFn, exs, ex, ev, evs, evA, back, sv, svs, Tg.bind, ixP, fins, B.asg, S.asg, Tg.asg, deq_int, hL, h', c, lrO]
        rw [e1, List.length_cons, un]
        exact ⟨some d, some .non, by rw [List.append_nil] <;> rfl⟩
      | some v =>
        obtain ⟨r, q⟩ := v
        simp only [e] at un
        rw [e] at c
        have e1 : exs call W none (lpRd rr) [some (.lst false (iL ws)), some (.lst true (acc.map RRu.d)), some (.int (p : Nat)), some d, y] = .nx [some (.lst false (iL ws)), some (.lst true ((acc ++ [r]).map RRu.d)), some (.int (q : Nat)), some d, some (.lst true [r.d, .int (q : Nat)])] := by
          generalize (ws.length : Int) = n at *
          generalize (p : Int) = z at *
          generalize iL ws = L at hL c ⊢
          simp [lpRd, runFn, exs, ex, ev, evs, evA, back, sv, svs, Tg.bind, ixP, fins, B.asg, S.asg, Tg.asg, deq_int, hL, h', c, lrO, atI_0, atI_1, mutD, lt]
        obtain ⟨x', y', g⟩ := rd_go s hc ds q (acc ++ [r]) (some d) (some (.lst true [r.d, .int (q : Nat)])) (by rw [List.length_append, List.length_singleton]; omega)
        rw [e1, List.length_cons, un]
        exact ⟨x', y', g.trans (by rw [List.append_assoc] <;> rfl)⟩
    · have un : rds ws (ds.length + 1) p = ([], p) := by
        show (if p < ws.length then (match rdRu ws p with | none => ([], p) | some (r, q) => (r :: (rds ws ds.length q).1, (rds ws ds.length q).2)) else ([], p)) = _
        rw [if_neg h]
      have h' : (ws.length : Int) ≤ (p : Int) := by omega
      have e1 : exs call W none (lpRd rr) [some (.lst false (iL ws)), some (.lst true (acc.map RRu.d)), some (.int (p : Nat)), some d, y] = .brk [some (.lst false (iL ws)), some (.lst true (acc.map RRu.d)), some (.int (p : Nat)), some d, y] := by
        generalize (ws.length : Int) = n at *
        generalize (p : Int) = z at *
        generalize iL ws = L at hL ⊢
        simp [lpRd, runFn, exs, ex, ev, evs, evA, back, sv, svs, Tg.bind, ixP, fins, B.asg, S.asg, Tg.asg, deq_int, hL, h']
      rw [e1, List.length_cons, un]
      exact ⟨some d, y, by rw [List.append_nil] <;> rfl⟩
theorem evSrc_rng1 {cur : Cur} {E : En} {a : Sx} {n : Int} (e : sv cur E a = some (.int n)) (sm : small62 n = true) : evSrc call cur (.rng1 a) E = .ok (rngD 0 n) E := by
  show (match sv cur E a with
    | some (.int n) => if small62 n = true then R.ok (rngD 0 n) E else .bad
    | _ => .bad) = _
  rw [e]
  exact if_pos sm
theorem ex_for1 {cur : Cur} {E : En} {a : Sx} {n : Int} {t : Tg} {b : B} {o : O} (e : sv cur E a = some (.int n)) (sm : small62 n = true) (g : forGo t (exs call W cur b) (rngD 0 n) E = o) : ex call W cur (.fors t (.rng1 a) b) E = o := by
  rw [ex_fors, evSrc_rng1 e sm]
  exact g
theorem readC {rr : Nat} {L Q : List D} {n a e2 : Int} {x' y' : Option D} (hL : (L.length : Int) = n) (h1 : ¬ n = 0) (sm : small62 n = true) (g : forGo (.nm 3) (exs call W none (lpRd rr)) (rngD 0 n) [some (.lst false L), some (.lst true []), some (.int 1), none, none] = .nx [some (.lst false L), some (.lst true Q), some (.int e2), x', y'])
    (a0 : atI L 0 = some (.int a)) (fr : frzL Q = Q) (z3 : 3 ≤ sizeLine) : runFn call W (fnReading rr) [.lst false L] = .ret (.lst true [.int a, .lst false Q, .int e2]) [.lst false L] := by
  have a1 : (0 : Nat) ∉ (fnReading rr).body.asg := by simp [fnReading, B.asg, S.asg, Tg.asg]
  refine runFn_rt (E1 := [some (.lst false L), some (.lst false Q), some (.int e2), x', y']) rfl (show 1 ≤ 5 by decide) ?_ (by simp only [fins, if_neg a1]; rfl)
  show exs call W none _ [some (.lst false L), none, none, none, none] = _
  simp only [fnReading]
  refine exs_step (E1 := [some (.lst false L), none, none, none, none]) (by simp [runFn, exs, ex, ev, evs, evA, back, sv, svs, Tg.bind, ixP, fins, B.asg, S.asg, Tg.asg, deq_int, hL, h1]) ?_
  refine exs_step (E1 := [some (.lst false L), some (.lst true []), none, none, none]) (by simp [runFn, exs, ex, ev, evs, evA, back, sv, svs, Tg.bind, ixP, fins, B.asg, S.asg, Tg.asg, deq_int]) ?_
  refine exs_step (E1 := [some (.lst false L), some (.lst true []), some (.int 1), none, none]) (by simp [runFn, exs, ex, ev, evs, evA, back, sv, svs, Tg.bind, ixP, fins, B.asg, S.asg, Tg.asg, deq_int]) ?_
  refine exs_step (ex_for1 (n := n) (by simp [runFn, exs, ex, ev, evs, evA, back, sv, svs, Tg.bind, ixP, fins, B.asg, S.asg, Tg.asg, deq_int, hL]) sm g) ?_
  simp [runFn, exs, ex, ev, evs, evA, back, sv, svs, Tg.bind, ixP, fins, B.asg, S.asg, Tg.asg, deq_int, a0, fr, z3]
theorem sm_len {n : Int} (h0 : 0 ≤ n) (h1 : n ≤ 90000) : small62 n = true := sm62 h0 (Int.le_trans h1 (by decide))
theorem read0 {rr : Nat} : runFn call W (fnReading rr) [.lst false []] = .ret (.lst true [.int 0, .lst true [], .int 0]) [.lst false []] := by
  have z3 : (3 : Nat) ≤ sizeLine := by rw [sizeLine_eq]; decide
  simp [fnReading, runFn, exs, ex, ev, evs, evA, back, sv, svs, Tg.bind, ixP, fins, B.asg, S.asg, Tg.asg, deq_int, z3]
theorem rd_len {n : Nat} (h : n ≤ 90000) : ([] : List RRu).length + (rngD 0 (n : Int)).length ≤ sizeLine := by
  rw [rng_len, sizeLine_eq, Int.toNat_natCast]
  exact Nat.le_trans (Nat.le_of_eq (Nat.zero_add n)) (Nat.le_trans h (by decide))
theorem reading {rr : Nat} {ws : List Int} (s : Sgs ws) (hlen : ws.length ≤ 90000) (hc : ∀ p : Nat, p < ws.length → call rr [.lst false (iL ws), .int (p : Nat)] = .ret (lrO (rdRu ws p)) [.lst false (iL ws), .int (p : Nat)]) :
    ∃ o, runFn call W (fnReading rr) [.lst false (iL ws)] = .ret (.lst true [.int (gw ws 0), .lst o ((rdAll ws).1.map RRu.d), .int ((rdAll ws).2 : Nat)]) [.lst false (iL ws)] := by
  have hL : ((iL ws).length : Int) = (ws.length : Int) := by rw [List.length_map]
  have z3 : (3 : Nat) ≤ sizeLine := by rw [sizeLine_eq]; decide
  by_cases h0 : ws.length = 0
  · have : ws = [] := List.eq_nil_of_length_eq_zero h0
    subst this
    exact ⟨true, read0⟩
  · refine ⟨false, ?_⟩
    obtain ⟨x', y', g⟩ := rd_go (W := W) s hc (rngD 0 (ws.length : Int)) 1 [] none none (rd_len hlen)
    have e : rds ws (rngD 0 (ws.length : Int)).length 1 = rdAll ws := by
      rw [rng_len, Int.toNat_natCast]
      unfold rdAll
      rw [if_neg h0]
    rw [e] at g
    exact readC hL (fun k => h0 (Int.ofNat_eq_zero.mp k)) (sm_len (Int.natCast_nonneg _) (Int.ofNat_le.mpr hlen)) g (atI_iL (i := 0) rfl (by omega)) (frzL_rus _) z3
end
end VM

namespace VM
open PySem L2
def fnIsItem (is ir : Nat) : Fn := ⟨1, 1, (.cons (.ifs (.sx (.or (.not (.op (.isi [.tuple]) (.cons (.var 0) .nil))) (.or (.op .eq (.cons (.op .len (.cons (.var 0) .nil)) (.cons (.cst (.int 0)) .nil))) (.not (.op (.isi [.str]) (.cons (.op .idx (.cons (.var 0) (.cons (.cst (.int 0)) .nil))) .nil)))))) (.cons (.ret (.sx (.cst (.bl false)))) .nil) .nil) (.cons (.ifs (.sx (.op .eq (.cons (.op .idx (.cons (.var 0) (.cons (.cst (.int 0)) .nil))) (.cons (.cst (.str "put")) .nil)))) (.cons (.ret (.and (.sx (.op .eq (.cons (.op .len (.cons (.var 0) .nil)) (.cons (.cst (.int 2)) .nil)))) (.and (.call ir (.ex (.sx (.op .idx (.cons (.var 0) (.cons (.cst (.int 1)) .nil)))) .nil)) (.sx (.op .le (.cons (.op .len (.cons (.op .idx (.cons (.var 0) (.cons (.cst (.int 1)) .nil))) .nil)) (.cons (.cst (.int 99)) .nil))))))) .nil) .nil) (.cons (.ifs (.sx (.op .eq (.cons (.op .idx (.cons (.var 0) (.cons (.cst (.int 0)) .nil))) (.cons (.cst (.str "plus")) .nil)))) (.cons (.ret (.and (.sx (.op .eq (.cons (.op .len (.cons (.var 0) .nil)) (.cons (.cst (.int 2)) .nil)))) (.call is (.ex (.sx (.op .idx (.cons (.var 0) (.cons (.cst (.int 1)) .nil)))) .nil)))) .nil) .nil) (.cons (.ifs (.sx (.op .eq (.cons (.op .idx (.cons (.var 0) (.cons (.cst (.int 0)) .nil))) (.cons (.cst (.str "own")) .nil)))) (.cons (.ret (.and (.sx (.op .eq (.cons (.op .len (.cons (.var 0) .nil)) (.cons (.cst (.int 3)) .nil)))) (.and (.call is (.ex (.sx (.op .idx (.cons (.var 0) (.cons (.cst (.int 1)) .nil)))) .nil)) (.call is (.ex (.sx (.op .idx (.cons (.var 0) (.cons (.cst (.int 2)) .nil)))) .nil))))) .nil) .nil) (.cons (.ret (.sx (.cst (.bl false)))) .nil)))))⟩
def lpIsRule (im : Nat) : B := (.cons (.ifs (.not (.call im (.nm 1 .nil))) (.cons (.ret (.sx (.cst (.bl false)))) .nil) .nil) .nil)
def sIR0 (is im : Nat) : S := (.ifs (.or (.sx (.not (.op (.isi [.tuple]) (.cons (.var 0) .nil)))) (.or (.sx (.op .ne (.cons (.op .len (.cons (.var 0) .nil)) (.cons (.cst (.int 4)) .nil)))) (.not (.call is (.ex (.sx (.op .idx (.cons (.var 0) (.cons (.cst (.int 0)) .nil)))) .nil))))) (.cons (.ret (.sx (.cst (.bl false)))) .nil) .nil)
def sIR1 (is im : Nat) : S := (.ifs (.sx (.or (.not (.op (.isi [.list, .tuple]) (.cons (.op .idx (.cons (.var 0) (.cons (.cst (.int 2)) .nil))) .nil))) (.op .gt (.cons (.op .len (.cons (.op .idx (.cons (.var 0) (.cons (.cst (.int 2)) .nil))) .nil)) (.cons (.cst (.int 99)) .nil))))) (.cons (.ret (.sx (.cst (.bl false)))) .nil) .nil)
def sIR2 (is im : Nat) : S := (.fors (.nm 1) (.sx (.op .idx (.cons (.var 0) (.cons (.cst (.int 2)) .nil)))) (lpIsRule im))
def sIR3 (is im : Nat) : S := (.ifs (.sx (.op (.isi [.str]) (.cons (.op .idx (.cons (.var 0) (.cons (.cst (.int 1)) .nil))) .nil))) (.cons (.ifs (.sx (.op .eq (.cons (.op .idx (.cons (.var 0) (.cons (.cst (.int 1)) .nil))) (.cons (.cst (.str "end")) .nil)))) (.cons (.ret (.sx (.op .isN (.cons (.op .idx (.cons (.var 0) (.cons (.cst (.int 3)) .nil))) .nil)))) .nil) .nil) (.cons (.ret (.and (.sx (.op .eq (.cons (.op .idx (.cons (.var 0) (.cons (.cst (.int 1)) .nil))) (.cons (.cst (.str "other")) .nil)))) (.call is (.ex (.sx (.op .idx (.cons (.var 0) (.cons (.cst (.int 3)) .nil)))) .nil)))) .nil)) .nil)
def sIR4 (is im : Nat) : S := (.ret (.and (.call is (.ex (.sx (.op .idx (.cons (.var 0) (.cons (.cst (.int 1)) .nil)))) .nil)) (.call is (.ex (.sx (.op .idx (.cons (.var 0) (.cons (.cst (.int 3)) .nil)))) .nil))))
def fnIsRule (is im : Nat) : Fn := ⟨1, 2, (.cons (sIR0 is im) (.cons (sIR1 is im) (.cons (sIR2 is im) (.cons (sIR3 is im) (.cons (sIR4 is im) .nil)))))⟩
def fnSgItem : Fn := ⟨1, 1, (.cons (.ifs (.sx (.op .eq (.cons (.op .idx (.cons (.var 0) (.cons (.cst (.int 0)) .nil))) (.cons (.cst (.str "put")) .nil)))) (.cons (.ret (.aop .add (.cons (.lst (.cons (.sx (.cst (.int 0))) (.cons (.sx (.op .len (.cons (.op .idx (.cons (.var 0) (.cons (.cst (.int 1)) .nil))) .nil))) .nil))) (.cons (.sx (.aop .lstOf (.cons (.op .idx (.cons (.var 0) (.cons (.cst (.int 1)) .nil))) .nil))) .nil)))) .nil) .nil) (.cons (.ifs (.sx (.op .eq (.cons (.op .idx (.cons (.var 0) (.cons (.cst (.int 0)) .nil))) (.cons (.cst (.str "plus")) .nil)))) (.cons (.ret (.lst (.cons (.sx (.cst (.int 1))) (.cons (.sx (.op .idx (.cons (.var 0) (.cons (.cst (.int 1)) .nil)))) .nil)))) .nil) .nil) (.cons (.ret (.lst (.cons (.sx (.cst (.int 2))) (.cons (.sx (.op .idx (.cons (.var 0) (.cons (.cst (.int 1)) .nil)))) (.cons (.sx (.op .idx (.cons (.var 0) (.cons (.cst (.int 2)) .nil)))) .nil))))) .nil)))⟩
def lpSgRule (si : Nat) : B := (.cons (.expr (.mut .extend 1 (.cons (.call si (.nm 2 .nil)) .nil))) .nil)
def sSR0 (si : Nat) : S := (.set (.nm 1) (.lst (.cons (.sx (.op .idx (.cons (.var 0) (.cons (.cst (.int 0)) .nil)))) .nil)))
def sSR1 (si : Nat) : S := (.ifs (.sx (.op .eq (.cons (.op .idx (.cons (.var 0) (.cons (.cst (.int 1)) .nil))) (.cons (.cst (.str "other")) .nil)))) (.cons (.expr (.mut .append 1 (.cons (.sx (.cst (.int 1))) .nil))) .nil) (.cons (.ifs (.sx (.op .eq (.cons (.op .idx (.cons (.var 0) (.cons (.cst (.int 1)) .nil))) (.cons (.cst (.str "end")) .nil)))) (.cons (.expr (.mut .append 1 (.cons (.sx (.cst (.int 2))) .nil))) .nil) (.cons (.expr (.mut .extend 1 (.cons (.lst (.cons (.sx (.cst (.int 0))) (.cons (.sx (.op .idx (.cons (.var 0) (.cons (.cst (.int 1)) .nil)))) .nil))) .nil))) .nil)) .nil))
def sSR2 (si : Nat) : S := (.expr (.mut .append 1 (.cons (.sx (.op .len (.cons (.op .idx (.cons (.var 0) (.cons (.cst (.int 2)) .nil))) .nil))) .nil)))
def sSR3 (si : Nat) : S := (.fors (.nm 2) (.sx (.op .idx (.cons (.var 0) (.cons (.cst (.int 2)) .nil)))) (lpSgRule si))
def sSR4 (si : Nat) : S := (.ifs (.sx (.op .notN (.cons (.op .idx (.cons (.var 0) (.cons (.cst (.int 3)) .nil))) .nil))) (.cons (.expr (.mut .append 1 (.cons (.sx (.op .idx (.cons (.var 0) (.cons (.cst (.int 3)) .nil)))) .nil))) .nil) .nil)
def sSR5 (si : Nat) : S := (.ret (.tk 1))
def fnSgRule (si : Nat) : Fn := ⟨1, 3, (.cons (sSR0 si) (.cons (sSR1 si) (.cons (sSR2 si) (.cons (sSR3 si) (.cons (sSR4 si) (.cons (sSR5 si) .nil))))))⟩
def lpBody (rl sr c : Nat) : B := (.cons (.ifs (.not (.call rl (.nm 4 .nil))) (.cons (.raise c (.cons (.sx (.var 3)) .nil)) .nil) .nil) (.cons (.expr (.mut .extend 2 (.cons (.call sr (.nm 4 .nil)) .nil))) .nil))
def sBF0 (cs rl sr c : Nat) : S := (.expr (.call cs (.nm 0 .nil)))
def sBF1 (cs rl sr c : Nat) : S := (.ifs (.sx (.not (.op (.isi [.list, .tuple]) (.cons (.var 1) .nil)))) (.cons (.raise c (.cons (.sx (.op .neg (.cons (.cst (.int 1)) .nil))) .nil)) .nil) .nil)
def sBF2 (cs rl sr c : Nat) : S := (.set (.nm 2) (.lst (.cons (.sx (.var 0)) .nil)))
def sBF3 (cs rl sr c : Nat) : S := (.fors (.tup [3, 4]) (.enum (.var 1)) (lpBody rl sr c))
def sBF4 (cs rl sr c : Nat) : S := (.ret (.new .tupOf (.cons (.var 2) .nil)))
def fnBodyFor (cs rl sr c : Nat) : Fn := ⟨2, 5, (.cons (sBF0 cs rl sr c) (.cons (sBF1 cs rl sr c) (.cons (sBF2 cs rl sr c) (.cons (sBF3 cs rl sr c) (.cons (sBF4 cs rl sr c) .nil)))))⟩
theorem turnO_nx' {E : En} {f : En → O} : turnO (.nx E) f = f E := rfl
/-! ### what is a rule: any deep data, asked -/
def lenD (d : D) : Nat := (d.items.getD []).length
def itB : D → Bool
  | .tup (.str w :: [x]) => if w = "put" then rowB x && decide (lenD x ≤ 99) else if w = "plus" then sgB 100 x else false
  | .tup (.str w :: [x, y]) => if w = "own" then sgB 100 x && sgB 100 y else false
  | _ => false
def ruB : D → Bool
  | .tup [a, b, c, e] => sgB 100 a && (match c.items with | some xs => decide (xs.length ≤ 99) && xs.all itB | none => false) && (match b with | .str w => if w = "end" then e.isNon else w == "other" && sgB 100 e | _ => sgB 100 b && sgB 100 e)
  | _ => false
theorem deq_strD {x y : Str} : deq (.str x) (.str y) = some (decide (x = y)) := by
  rw [deq_str]
  by_cases h : x = y
  · subst h; simp
  · have : (x == y) = false := by simpa using h
    rw [this, decide_eq_false h]
section
variable {call : Nat → List D → Rr} {W : Nat}
theorem row_len {x : D} (h : rowB x = true) : bop .len [x] = some (.int (lenD x : Nat)) := by
  obtain ⟨ws, _, rfl | ⟨o, rfl⟩ | rfl⟩ := rowB_inv h <;> rfl
theorem isItem {is ir : Nat} {d : D} (hd : Dp 2 d) (hs : ∀ x : D, x.fz = true → call is [x] = .ret (.bl (sgB 100 x)) [x]) (hr : ∀ x : D, Rw x → call ir [x] = .ret (.bl (rowB x)) [x]) : runFn call W (fnIsItem is ir) [d] = .ret (.bl (itB d)) [d] := by
  have z := hd.fz
  have q1 : ¬ (("plus" : Str) = ("put" : Str)) := by decide
  have q2 : ¬ (("own" : Str) = ("put" : Str)) := by decide
  have q3 : ¬ (("own" : Str) = ("plus" : Str)) := by decide
  have q4 : ¬ (("put" : Str) = ("plus" : Str)) := by decide
  have q5 : ¬ (("put" : Str) = ("own" : Str)) := by decide
  have q6 : ¬ (("plus" : Str) = ("own" : Str)) := by decide
  cases d with
  | tup xs =>
    have sub := hd.2 xs rfl
    match xs, sub with
    | [], _ => simp [fnIsItem, runFn, exs, ex, ev, evs, evA, back, sv, svs, Tg.bind, ixP, fins, B.asg, S.asg, Tg.asg, deq_int, Kd.isTy, itB]
    | x :: r, sub =>
      have fx := (sub.2 x List.mem_cons_self).fz
      have lr : r.length ≤ 1000000 := by have := sub.1; simp at this; omega
      have tf : ∀ y ∈ r, Dp 1 y := fun y hy => sub.2 y (List.mem_cons_of_mem _ hy)
      cases x with
      | str w =>
        have nb : ∀ y ∈ r, y.topfz = y := fun y hy => by
          have := (tf y hy).fz
          cases y <;> first | rfl | (rename_i o _; cases o; rfl; cases this)
        match r, tf, nb with
        | [], _, _ =>
          by_cases c0 : w = "put" <;> by_cases c1 : w = "plus" <;> by_cases c2 : w = "own" <;> simp [fnIsItem, runFn, exs, ex, ev, evs, evA, back, sv, svs, Tg.bind, ixP, fins, B.asg, S.asg, Tg.asg, deq_int, Kd.isTy, itB, atI_0, deq_strD, q1, q2, q3, q4, q5, q6, c0, c1, c2]
        | [y], tf, nb =>
          have fy := (tf y List.mem_cons_self).fz
          have ny := nb y List.mem_cons_self
          have s1 := hs y fy
          have r1 := hr y (tf y List.mem_cons_self).rw_
          by_cases c0 : w = "put"
          · subst c0
            by_cases hb : rowB y = true
            · rw [hb] at r1
              have hl := row_len hb
              by_cases h9 : lenD y ≤ 99
              · have h9' : ((lenD y : Nat) : Int) ≤ 99 := by omega
                simp [fnIsItem, runFn, exs, ex, ev, evs, evA, back, sv, svs, Tg.bind, ixP, fins, B.asg, S.asg, Tg.asg, deq_int, Kd.isTy, itB, atI_0, atI_1, deq_strD, q1, q2, q3, q4, q5, q6, r1, hb, hl, h9, h9', fy, ny]
              · have h9' : ¬ ((lenD y : Nat) : Int) ≤ 99 := by omega
                simp [fnIsItem, runFn, exs, ex, ev, evs, evA, back, sv, svs, Tg.bind, ixP, fins, B.asg, S.asg, Tg.asg, deq_int, Kd.isTy, itB, atI_0, atI_1, deq_strD, q1, q2, q3, q4, q5, q6, r1, hb, hl, h9, h9', fy, ny]
            · have hb' : rowB y = false := by simpa using hb
              rw [hb'] at r1
              simp [fnIsItem, runFn, exs, ex, ev, evs, evA, back, sv, svs, Tg.bind, ixP, fins, B.asg, S.asg, Tg.asg, deq_int, Kd.isTy, itB, atI_0, atI_1, deq_strD, q1, q2, q3, q4, q5, q6, r1, hb', fy, ny]
          · by_cases c1 : w = "plus"
            · subst c1
              simp [fnIsItem, runFn, exs, ex, ev, evs, evA, back, sv, svs, Tg.bind, ixP, fins, B.asg, S.asg, Tg.asg, deq_int, Kd.isTy, itB, atI_0, atI_1, deq_strD, q1, q2, q3, q4, q5, q6, s1, fy, ny]
            · by_cases c2 : w = "own" <;> simp [fnIsItem, runFn, exs, ex, ev, evs, evA, back, sv, svs, Tg.bind, ixP, fins, B.asg, S.asg, Tg.asg, deq_int, Kd.isTy, itB, atI_0, atI_1, deq_strD, q1, q2, q3, q4, q5, q6, c0, c1, c2, s1, fy, ny]
        | [y, u], tf, nb =>
          have fy := (tf y List.mem_cons_self).fz
          have fu := (tf u (List.mem_cons_of_mem _ List.mem_cons_self)).fz
          have ny := nb y List.mem_cons_self
          have nu := nb u (List.mem_cons_of_mem _ List.mem_cons_self)
          have s1 := hs y fy
          have s2 := hs u fu
          by_cases c0 : w = "put"
          · subst c0
            simp [fnIsItem, runFn, exs, ex, ev, evs, evA, back, sv, svs, Tg.bind, ixP, fins, B.asg, S.asg, Tg.asg, deq_int, Kd.isTy, itB, atI_0, deq_strD, q1, q2, q3, q4, q5, q6]
          · by_cases c1 : w = "plus"
            · subst c1
              simp [fnIsItem, runFn, exs, ex, ev, evs, evA, back, sv, svs, Tg.bind, ixP, fins, B.asg, S.asg, Tg.asg, deq_int, Kd.isTy, itB, atI_0, deq_strD, q1, q2, q3, q4, q5, q6]
            · by_cases c2 : w = "own"
              · subst c2
                by_cases k1 : sgB 100 y = true
                · rw [k1] at s1
                  simp [fnIsItem, runFn, exs, ex, ev, evs, evA, back, sv, svs, Tg.bind, ixP, fins, B.asg, S.asg, Tg.asg, deq_int, Kd.isTy, itB, atI_0, atI_1, atI_2, deq_strD, q1, q2, q3, q4, q5, q6, s1, s2, fy, fu, ny, nu, k1]
                · have k1' : sgB 100 y = false := by simpa using k1
                  rw [k1'] at s1
                  simp [fnIsItem, runFn, exs, ex, ev, evs, evA, back, sv, svs, Tg.bind, ixP, fins, B.asg, S.asg, Tg.asg, deq_int, Kd.isTy, itB, atI_0, atI_1, atI_2, deq_strD, q1, q2, q3, q4, q5, q6, s1, fy, fu, ny, nu, k1']
              · simp [fnIsItem, runFn, exs, ex, ev, evs, evA, back, sv, svs, Tg.bind, ixP, fins, B.asg, S.asg, Tg.asg, deq_int, Kd.isTy, itB, atI_0, deq_strD, q1, q2, q3, q4, q5, q6, c0, c1, c2]
        | y :: u :: v :: r, tf, nb =>
          have l2 : ¬ ((r.length : Int) + 1 + 1 + 1 + 1 = 2) := by omega
          have l3 : ¬ ((r.length : Int) + 1 + 1 + 1 + 1 = 3) := by omega
          have l0 : ¬ ((r.length : Int) + 1 + 1 + 1 + 1 = 0) := by omega
          by_cases c0 : w = "put" <;> by_cases c1 : w = "plus" <;> by_cases c2 : w = "own" <;> simp [fnIsItem, runFn, exs, ex, ev, evs, evA, back, sv, svs, Tg.bind, ixP, fins, B.asg, S.asg, Tg.asg, deq_int, Kd.isTy, itB, atI_0, deq_strD, q1, q2, q3, q4, q5, q6, c0, c1, c2, l2, l3, l0]
      | _ =>
        have l0 : ¬ ((r.length : Int) + 1 = 0) := by omega
        simp [fnIsItem, runFn, exs, ex, ev, evs, evA, back, sv, svs, Tg.bind, ixP, fins, B.asg, S.asg, Tg.asg, deq_int, Kd.isTy, itB, atI_0, l0] <;> first | done | (rename_i o _; cases o <;> first | rfl | (cases fx; done) | simp_all) | skip
  | _ => simp [fnIsItem, runFn, exs, ex, ev, evs, evA, back, sv, svs, Tg.bind, ixP, fins, B.asg, S.asg, Tg.asg, deq_int, Kd.isTy, itB, z]
@[simp] theorem asg_lpIsRule {im} : (lpIsRule im).asg = [] := rfl
theorem items_one {im : Nat} {m y : D} (hy : y.fz = true) (hm : call im [y] = .ret (.bl (itB y)) [y]) : exs call W none (lpIsRule im) [some m, some y] = if itB y = true then .nx [some m, some y] else .rt (.bl false) [some m, some y] := by
  by_cases h : itB y = true
  · rw [h] at hm
    simp [lpIsRule, runFn, exs, ex, ev, evs, evA, back, sv, svs, atI, ixN, Tg.bind, ixP, fins, B.asg, S.asg, Tg.asg, deq_int, hm, hy, h]
  · have h' : itB y = false := by simpa using h
    rw [h'] at hm
    simp [lpIsRule, runFn, exs, ex, ev, evs, evA, back, sv, svs, atI, ixN, Tg.bind, ixP, fins, B.asg, S.asg, Tg.asg, deq_int, hm, hy, h']
theorem items_go {im : Nat} {m : D} : ∀ (xs : List D) (x : Option D), (∀ y ∈ xs, y.fz = true ∧ call im [y] = .ret (.bl (itB y)) [y]) → ∃ x', forGo (.nm 1) (exs call W none (lpIsRule im)) xs [some m, x] = if xs.all itB = true then .nx [some m, x'] else .rt (.bl false) [some m, x']
  | [], x, _ => ⟨x, by simp [forGo]⟩
  | y :: xs, x, h => by
    obtain ⟨x', e⟩ := items_go xs (some y) fun z hz => h z (List.mem_cons_of_mem _ hz)
    have h1 := items_one (W := W) (m := m) (h y List.mem_cons_self).1 (h y List.mem_cons_self).2
    have st : forGo (.nm 1) (exs call W none (lpIsRule im)) (y :: xs) [some m, x] = turnO (exs call W none (lpIsRule im) [some m, some y]) (forGo (.nm 1) (exs call W none (lpIsRule im)) xs) := forGo_nm (by simp)
    rw [st, h1, List.all_cons]
    by_cases hy : itB y = true
    · refine ⟨x', ?_⟩
      rw [hy, if_pos rfl, Bool.true_and]
      exact e
    · refine ⟨some y, ?_⟩
      have hy' : itB y = false := by simpa using hy
      rw [hy', if_neg Bool.false_ne_true, Bool.false_and, if_neg Bool.false_ne_true]
      rfl
theorem topfz_id {y : D} (h : y.fz = true) : y.topfz = y := by
  cases y <;> first | rfl | (rename_i o _; cases o; rfl; cases h)
/-- the word and what follows, of a rule -/
def wnB (b e : D) : Bool := match b with
  | .str w => if w = "end" then e.isNon else w == "other" && sgB 100 e
  | _ => sgB 100 b && sgB 100 e
theorem isRule {is im : Nat} {d : D} (hd : Dp 4 d) (hs : ∀ x : D, x.fz = true → call is [x] = .ret (.bl (sgB 100 x)) [x]) (hm : ∀ x : D, Dp 2 x → call im [x] = .ret (.bl (itB x)) [x]) : runFn call W (fnIsRule is im) [d] = .ret (.bl (ruB d)) [d] := by
  have z := hd.fz
  have fin : ∀ {b : Bool} {E1 : En}, exs call W none (fnIsRule is im).body [some d, none] = .rt (.bl b) E1 → E1[0]? = some (some d) → b = ruB d → runFn call W (fnIsRule is im) [d] = .ret (.bl (ruB d)) [d] := fun {b E1} h h0 hb => by
    subst hb
    have a0 : (0 : Nat) ∉ (fnIsRule is im).body.asg := by simp [fnIsRule, sIR0, sIR1, sIR2, sIR3, sIR4, B.asg, S.asg, Tg.asg]
    exact runFn_rt (E1 := E1) rfl (show 1 ≤ 2 by decide) h (by simp only [fins, if_neg a0, h0, Option.join_some])
  have no : ∀ {r : B}, d.kd ≠ .tup → exs call W none (.cons (sIR0 is im) r) [some d, none] = .rt (.bl false) [some d, none] := fun {r} h => by
    cases d <;> simp [sIR0, runFn, exs, ex, ev, evs, evA, back, sv, svs, Tg.bind, ixP, fins, B.asg, S.asg, Tg.asg, deq_int, Kd.isTy] <;> exact absurd rfl h
  cases d with
  | tup xs =>
    have sub := hd.2 xs rfl
    by_cases l4 : xs.length = 4
    · match xs, l4, sub with
      | [a, b, c, e], _, sub =>
        have da := sub.2 a (by simp)
        have db := sub.2 b (by simp)
        have dc := sub.2 c (by simp)
        have de := sub.2 e (by simp)
        have na := topfz_id da.fz
        have nb := topfz_id db.fz
        have nc := topfz_id dc.fz
        have ne := topfz_id de.fz
        have fa := da.fz
        have fb := db.fz
        have fc := dc.fz
        have fe := de.fz
        have s1 := hs a fa
        have s2 := hs b fb
        have s3 := hs e fe
        have a3 : atI [a, b, c, e] 3 = some e := atI_nat _ 3
        by_cases ka : sgB 100 a = true
        · rw [ka] at s1
          have e0 : ex call W none (sIR0 is im) [some (.tup [a, b, c, e]), none] = .nx [some (.tup [a, b, c, e]), none] := by
            simp [sIR0, runFn, exs, ex, ev, evs, evA, back, sv, svs, Tg.bind, ixP, fins, B.asg, S.asg, Tg.asg, deq_int, Kd.isTy, atI_0, na, fa, s1]
          cases hi : c.items with
          | none =>
            refine fin (b := false) (exs_step e0 (exs_ret (E1 := [some (.tup [a, b, c, e]), none]) ?_)) rfl (by simp [ruB, hi])
            cases c <;> first | (cases hi; done) | simp [sIR1, runFn, exs, ex, ev, evs, evA, back, sv, svs, Tg.bind, ixP, fins, B.asg, S.asg, Tg.asg, deq_int, Kd.isTy, atI_2, nc, fc]
          | some ys =>
            have sc := dc.2 ys hi
            have kc : c.kd = .lst ∨ c.kd = .tup := by cases c <;> first | (cases hi; done) | exact .inl rfl | exact .inr rfl
            have lc : bop .len [c] = some (.int (ys.length : Nat)) := by cases c <;> first | (cases hi; done) | (cases hi; rfl)
            by_cases l9 : ys.length ≤ 99
            · have l9' : ¬ ((99 : Int) < (ys.length : Nat)) := by omega
              have e1 : ex call W none (sIR1 is im) [some (.tup [a, b, c, e]), none] = .nx [some (.tup [a, b, c, e]), none] := by
                rcases kc with kc | kc <;> simp [sIR1, runFn, exs, ex, ev, evs, evA, back, sv, svs, Tg.bind, ixP, fins, B.asg, S.asg, Tg.asg, deq_int, Kd.isTy, atI_2, nc, fc, kc, lc, l9']
              obtain ⟨x', go⟩ := items_go (call := call) (W := W) (im := im) (m := .tup [a, b, c, e]) ys none fun y hy => ⟨(sc.2 y hy).fz, hm y (sc.2 y hy)⟩
              have e2 : ∀ {o : O}, forGo (.nm 1) (exs call W none (lpIsRule im)) ys [some (.tup [a, b, c, e]), none] = o → ex call W none (sIR2 is im) [some (.tup [a, b, c, e]), none] = o := fun {o} g => by
                unfold sIR2
                rw [ex_fors]
                have : evSrc call none (.sx (.op .idx (.cons (.var 0) (.cons (.cst (.int 2)) .nil)))) [some (.tup [a, b, c, e]), none] = .ok ys [some (.tup [a, b, c, e]), none] := by
                  simp [evSrc, runFn, exs, ex, ev, evs, evA, back, sv, svs, Tg.bind, ixP, fins, B.asg, S.asg, Tg.asg, deq_int, atI_2, nc, fc, hi]
                rw [this]
                exact g
              by_cases al : ys.all itB = true
              · rw [if_pos al] at go
                have rb : ruB (.tup [a, b, c, e]) = wnB b e := by
                  show (sgB 100 a && (match c.items with | some xs => decide (xs.length ≤ 99) && xs.all itB | none => false) && wnB b e) = _
                  rw [hi, ka]
                  show ((true && (decide (ys.length ≤ 99) && ys.all itB)) && wnB b e) = _
                  rw [al, decide_eq_true l9] <;> rfl
                -- the word
                by_cases hb : ∃ w, b = .str w
                · obtain ⟨w, rfl⟩ := hb
                  by_cases w1 : w = "end"
                  · subst w1
                    refine fin (b := e.isNon) (exs_step e0 (exs_step e1 (exs_step (e2 go) (exs_ret (E1 := [some (.tup [a, .str "end", c, e]), x']) ?_)))) rfl (by rw [rb]; simp [wnB])
                    simp [sIR3, runFn, exs, ex, ev, evs, evA, back, sv, svs, Tg.bind, ixP, fins, B.asg, S.asg, Tg.asg, deq_int, Kd.isTy, atI_1, a3, ne, fe, deq_strD]
                  · by_cases w2 : w = "other"
                    · subst w2
                      refine fin (b := sgB 100 e) (exs_step e0 (exs_step e1 (exs_step (e2 go) (exs_ret (E1 := [some (.tup [a, .str "other", c, e]), x']) ?_)))) rfl (by rw [rb]; simp [wnB, w1])
                      simp [sIR3, runFn, exs, ex, ev, evs, evA, back, sv, svs, Tg.bind, ixP, fins, B.asg, S.asg, Tg.asg, deq_int, Kd.isTy, atI_1, a3, ne, fe, deq_strD, w1, s3]
                    · have w2' : (w == ("other" : Str)) = false := by simpa using w2
                      refine fin (b := false) (exs_step e0 (exs_step e1 (exs_step (e2 go) (exs_ret (E1 := [some (.tup [a, .str w, c, e]), x']) ?_)))) rfl (by rw [rb]; simp [wnB, w1, w2'])
                      simp [sIR3, runFn, exs, ex, ev, evs, evA, back, sv, svs, Tg.bind, ixP, fins, B.asg, S.asg, Tg.asg, deq_int, Kd.isTy, atI_1, a3, ne, fe, deq_strD, w1, w2]
                · have wb : wnB b e = (sgB 100 b && sgB 100 e) := by cases b <;> first | rfl | exact absurd ⟨_, rfl⟩ hb
                  have kb : b.kd.isTy .str = false := by cases b <;> first | rfl | exact absurd ⟨_, rfl⟩ hb
                  have e3 : ex call W none (sIR3 is im) [some (.tup [a, b, c, e]), x'] = .nx [some (.tup [a, b, c, e]), x'] := by
                    simp [sIR3, runFn, exs, ex, ev, evs, evA, back, sv, svs, Tg.bind, ixP, fins, B.asg, S.asg, Tg.asg, deq_int, atI_1, nb, fb, kb]
                  refine fin (b := sgB 100 b && sgB 100 e) (exs_step e0 (exs_step e1 (exs_step (e2 go) (exs_step e3 (exs_ret (E1 := [some (.tup [a, b, c, e]), x']) ?_))))) rfl (by rw [rb, wb])
                  by_cases k1 : sgB 100 b = true
                  · rw [k1] at s2
                    simp [sIR4, runFn, exs, ex, ev, evs, evA, back, sv, svs, Tg.bind, ixP, fins, B.asg, S.asg, Tg.asg, deq_int, atI_1, a3, nb, fb, ne, fe, s2, s3, k1]
                  · have k1' : sgB 100 b = false := by simpa using k1
                    rw [k1'] at s2
                    simp [sIR4, runFn, exs, ex, ev, evs, evA, back, sv, svs, Tg.bind, ixP, fins, B.asg, S.asg, Tg.asg, deq_int, atI_1, a3, nb, fb, ne, fe, s2, k1']
              · rw [if_neg al] at go
                have al' : ys.all itB = false := by simpa using al
                refine fin (b := false) (exs_step e0 (exs_step e1 (exs_ret (e2 go)))) rfl (by simp [ruB, hi, al'])
            · have l9' : (99 : Int) < (ys.length : Nat) := by omega
              refine fin (b := false) (exs_step e0 (exs_ret (E1 := [some (.tup [a, b, c, e]), none]) ?_)) rfl (by simp [ruB, hi, l9])
              rcases kc with kc | kc <;> simp [sIR1, runFn, exs, ex, ev, evs, evA, back, sv, svs, Tg.bind, ixP, fins, B.asg, S.asg, Tg.asg, deq_int, Kd.isTy, atI_2, nc, fc, kc, lc, l9']
        · have ka' : sgB 100 a = false := by simpa using ka
          rw [ka'] at s1
          refine fin (b := false) (exs_ret (E1 := [some (.tup [a, b, c, e]), none]) ?_) rfl (by simp [ruB, ka'])
          simp [sIR0, runFn, exs, ex, ev, evs, evA, back, sv, svs, Tg.bind, ixP, fins, B.asg, S.asg, Tg.asg, deq_int, Kd.isTy, atI_0, na, fa, s1]
    · have l4' : ¬ ((xs.length : Int) = 4) := by omega
      refine fin (b := false) (exs_ret (E1 := [some (.tup xs), none]) ?_) rfl ?_
      · simp [sIR0, runFn, exs, ex, ev, evs, evA, back, sv, svs, Tg.bind, ixP, fins, B.asg, S.asg, Tg.asg, deq_int, Kd.isTy, l4']
      · match xs, l4 with
        | [], _ => rfl
        | [_], _ => rfl
        | [_, _], _ => rfl
        | [_, _, _], _ => rfl
        | [_, _, _, _], h => exact absurd rfl h
        | _ :: _ :: _ :: _ :: _ :: _, _ => rfl
  | _ => exact fin (b := false) (no (by simp)) rfl rfl
/-! ### rules as they lie in what is handed in -/
def RowIs (x : D) (ws : List Int) : Prop := x.fz = true ∧ (x = .tup (iL ws) ∨ (∃ o, x = .lst o (iL ws)) ∨ x = .scr (iL ws))
def ItIs (d : D) : RIt → Prop
  | .put xs => ∃ x, d = .tup [.str "put", x] ∧ RowIs x xs
  | .plus a => d = .tup [.str "plus", .int a]
  | .own a b => d = .tup [.str "own", .int a, .int b]
def ItsAre : List D → List RIt → Prop
  | [], [] => True
  | d :: ds, i :: is => ItIs d i ∧ ItsAre ds is
  | _, _ => False
def RuIs (d : D) (r : RRu) : Prop := ∃ c xs, d = .tup [.int r.st, r.wd.d, c, optD r.nx] ∧ c.fz = true ∧ c.items = some xs ∧ ItsAre xs r.its
def RusAre : List D → List RRu → Prop
  | [], [] => True
  | d :: ds, i :: is => RuIs d i ∧ RusAre ds is
  | _, _ => False
theorem ItsAre.len : ∀ {ds : List D} {is : List RIt}, ItsAre ds is → ds.length = is.length
  | [], [], _ => rfl
  | _ :: _, _ :: _, h => by rw [List.length_cons, List.length_cons, h.2.len]
  | [], _ :: _, h => h.elim
  | _ :: _, [], h => h.elim
theorem RusAre.len : ∀ {ds : List D} {is : List RRu}, RusAre ds is → ds.length = is.length
  | [], [], _ => rfl
  | _ :: _, _ :: _, h => by rw [List.length_cons, List.length_cons, h.2.len]
  | [], _ :: _, h => h.elim
  | _ :: _, [], h => h.elim
theorem itB_inv {d : D} (hd : Dp 2 d) (h : itB d = true) : ∃ i : RIt, i.ok ∧ ItIs d i := by
  unfold itB at h
  split at h
  · rename_i w x
    have fx := ((hd.2 _ rfl).2 x (by simp)).fz
    split at h
    · rename_i hw
      subst hw
      obtain ⟨h1, h2⟩ := Bool.and_eq_true_iff.mp h
      obtain ⟨ws, s, hz⟩ := rowB_inv h1
      have hi : x.items = some (iL ws) := by rcases hz with rfl | ⟨o, rfl⟩ | rfl <;> rfl
      refine ⟨.put ws, ⟨s, ?_⟩, x, rfl, fx, hz⟩
      have h2 := of_decide_eq_true h2
      unfold lenD at h2
      rw [hi] at h2
      simpa using h2
    · split at h
      · rename_i hw
        subst hw
        obtain ⟨n, rfl, h1, h2⟩ := sgB_inv h
        exact ⟨.plus n, ⟨h1, h2⟩, rfl⟩
      · cases h
  · rename_i w x y
    split at h
    · rename_i hw
      subst hw
      obtain ⟨h1, h2⟩ := Bool.and_eq_true_iff.mp h
      obtain ⟨n, rfl, a1, a2⟩ := sgB_inv h1
      obtain ⟨m, rfl, b1, b2⟩ := sgB_inv h2
      exact ⟨.own n m, ⟨⟨a1, a2⟩, b1, b2⟩, rfl⟩
    · cases h
  · cases h
theorem its_inv : ∀ {ds : List D}, (∀ d ∈ ds, Dp 2 d) → ds.all itB = true → ∃ is : List RIt, (∀ i ∈ is, i.ok) ∧ ItsAre ds is
  | [], _, _ => ⟨[], fun i hi => (List.not_mem_nil hi).elim, trivial⟩
  | d :: ds, hd, h => by
    rw [List.all_cons, Bool.and_eq_true] at h
    obtain ⟨i, a1, a2⟩ := itB_inv (hd d List.mem_cons_self) h.1
    obtain ⟨is, b1, b2⟩ := its_inv (fun e he => hd e (List.mem_cons_of_mem _ he)) h.2
    exact ⟨i :: is, fun j hj => (List.mem_cons.mp hj).elim (fun e => e ▸ a1) (b1 j), a2, b2⟩
theorem ruB_inv {d : D} (hd : Dp 4 d) (h : ruB d = true) : ∃ r : RRu, r.ok ∧ RuIs d r := by
  unfold ruB at h
  split at h
  · rename_i a b c e
    obtain ⟨h12, h3⟩ := Bool.and_eq_true_iff.mp h
    obtain ⟨h1, h2⟩ := Bool.and_eq_true_iff.mp h12
    obtain ⟨st, rfl, s1, s2⟩ := sgB_inv h1
    have dc := (hd.2 _ rfl).2 c (by simp)
    split at h2
    · rename_i xs hx
      obtain ⟨h21, h22⟩ := Bool.and_eq_true_iff.mp h2
      have hl := of_decide_eq_true h21
      obtain ⟨is, b1, b2⟩ := its_inv (fun x hx2 => (dc.2 xs hx).2 x hx2) h22
      have li : is.length ≤ 99 := by rw [← b2.len]; exact hl
      split at h3
      · rename_i w
        split at h3
        · rename_i hw
          subst hw
          have he : e = .non := by cases e <;> first | rfl | cases h3
          subst he
          exact ⟨⟨st, .fin, is, none⟩, ⟨⟨s1, s2⟩, trivial, b1, li, rfl⟩, c, xs, rfl, dc.fz, hx, b2⟩
        · obtain ⟨k1, k2⟩ := Bool.and_eq_true_iff.mp h3
          have hw : w = "other" := by simpa using k1
          subst hw
          obtain ⟨n, rfl, n1, n2⟩ := sgB_inv k2
          exact ⟨⟨st, .other, is, some n⟩, ⟨⟨s1, s2⟩, trivial, b1, li, ⟨n1, n2⟩, by simp⟩, c, xs, rfl, dc.fz, hx, b2⟩
      · obtain ⟨k1, k2⟩ := Bool.and_eq_true_iff.mp h3
        obtain ⟨m, rfl, m1, m2⟩ := sgB_inv k1
        obtain ⟨n, rfl, n1, n2⟩ := sgB_inv k2
        exact ⟨⟨st, .sg m, is, some n⟩, ⟨⟨s1, s2⟩, ⟨m1, m2⟩, b1, li, ⟨n1, n2⟩, by simp⟩, c, xs, rfl, dc.fz, hx, b2⟩
    · cases h2
  · cases h
theorem rowIs_lst {x : D} {ws : List Int} (h : RowIs x ws) : (aop .lstOf [x]).map D.topfz = some (.lst false (iL ws)) ∧ bop .len [x] = some (.int (ws.length : Nat)) ∧ x.topfz = x := by
  have e : (iL ws).length = ws.length := List.length_map _
  have f : fzL (iL ws) = true := fzL_ints
  obtain ⟨fx, rfl | ⟨o, rfl⟩ | rfl⟩ := h
  · exact ⟨rfl, by rw [bop_len_tup, e], rfl⟩
  · refine ⟨by rw [aop_ll, if_pos f] <;> rfl, by rw [bop_len_lst, e], ?_⟩
    cases o with
    | true => cases fx
    | false => rfl
  · exact ⟨rfl, by rw [bop_len_scr, e], rfl⟩
theorem sgItem {d : D} {i : RIt} (h : ItIs d i) (hi : i.ok) : runFn call W fnSgItem [d] = .ret (.lst true (iL (spIt i))) [d] := by
  have q1 : ¬ (("plus" : Str) = ("put" : Str)) := by decide
  have q2 : ¬ (("own" : Str) = ("put" : Str)) := by decide
  have q3 : ¬ (("own" : Str) = ("plus" : Str)) := by decide
  have z2 := sz2
  have z3 : (3 : Nat) ≤ sizeLine := by rw [sizeLine_eq]; decide
  cases i with
  | put xs =>
    obtain ⟨x, rfl, hx⟩ := h
    obtain ⟨l1, l2, l3⟩ := rowIs_lst hx
    have fx := hx.1
    have lx : (iL xs).length = xs.length := List.length_map _
    have ff : fzL (iL xs) = true := fzL_ints
    have le : 2 + xs.length ≤ sizeLine := by have := hi.2; rw [sizeLine_eq]; omega
    show _ = Rr.ret (.lst true (.int 0 :: .int (xs.length : Int) :: iL xs)) _
    obtain ⟨y, y1, y2⟩ := Option.map_eq_some_iff.mp l1
    generalize (xs.length : Int) = n at *
    generalize iL xs = L at *
    simp [fnSgItem, runFn, exs, ex, ev, evs, evA, back, sv, svs, Tg.bind, ixP, fins, B.asg, S.asg, Tg.asg, deq_int, atI_0, atI_1, deq_strD, l2, l3, y1, y2, z2, ff, lx, le]
  | plus a =>
    obtain rfl : d = .tup [.str "plus", .int a] := h
    simp [fnSgItem, runFn, exs, ex, ev, evs, evA, back, sv, svs, Tg.bind, ixP, fins, B.asg, S.asg, Tg.asg, deq_int, atI_0, atI_1, deq_strD, q1, z2, spIt, iL]
  | own a b =>
    obtain rfl : d = .tup [.str "own", .int a, .int b] := h
    simp [fnSgItem, runFn, exs, ex, ev, evs, evA, back, sv, svs, Tg.bind, ixP, fins, B.asg, S.asg, Tg.asg, deq_int, atI_0, atI_1, atI_2, deq_strD, q2, q3, z3, spIt, iL]
@[simp] theorem asg_lpSgRule {si} : (lpSgRule si).asg = [] := rfl
theorem sgs_go {si : Nat} {m : D} (hs : ∀ (x : D) (i : RIt), ItIs x i → i.ok → call si [x] = .ret (.lst true (iL (spIt i))) [x]) : ∀ (xs : List D) (is : List RIt) (ws : List Int) (x : Option D), ItsAre xs is → (∀ i ∈ is, i.ok) → (∀ y ∈ xs, y.fz = true) → ws.length + 101 * is.length ≤ sizeLine →
    ∃ x', forGo (.nm 2) (exs call W none (lpSgRule si)) xs [some m, some (.lst true (iL ws)), x] = .nx [some m, some (.lst true (iL (ws ++ spIts is))), x']
  | [], [], ws, x, _, _, _, _ => ⟨x, by simp [forGo, spIts]⟩
  | y :: xs, i :: is, ws, x, h, ok, fz, hl => by
    have oi := ok i List.mem_cons_self
    have c := hs y i h.1 oi
    have fy := fz y List.mem_cons_self
    have bl := (spIt_len oi).2
    simp only [List.length_cons] at hl
    obtain ⟨x', g⟩ := sgs_go (m := m) hs xs is (ws ++ spIt i) (some y) h.2 (fun j hj => ok j (List.mem_cons_of_mem _ hj)) (fun j hj => fz j (List.mem_cons_of_mem _ hj)) (by rw [List.length_append]; omega)
    refine ⟨x', ?_⟩
    have st : forGo (.nm 2) (exs call W none (lpSgRule si)) (y :: xs) [some m, some (.lst true (iL ws)), x] = turnO (exs call W none (lpSgRule si) [some m, some (.lst true (iL ws)), some y]) (forGo (.nm 2) (exs call W none (lpSgRule si)) xs) := forGo_nm (by simp)
    have e1 : exs call W none (lpSgRule si) [some m, some (.lst true (iL ws)), some y] = .nx [some m, some (.lst true (iL (ws ++ spIt i))), some y] := by
      have l1 : (iL ws).length = ws.length := List.length_map _
      have l2 : (iL (spIt i)).length = (spIt i).length := List.length_map _
      have ff : fzL (iL (spIt i)) = true := fzL_ints
      have le : (iL ws).length + (iL (spIt i)).length ≤ sizeLine := by rw [l1, l2]; omega
      rw [← iL_app]
      generalize iL (spIt i) = M at c ff le ⊢
      generalize iL ws = L at le ⊢
      simp [lpSgRule, runFn, exs, ex, ev, evs, evA, back, sv, svs, Tg.bind, ixP, fins, B.asg, S.asg, Tg.asg, deq_int, c, fy, mutD, ff, le]
    rw [st, e1, turnO_nx', g, List.append_assoc] <;> rfl
theorem sgRule {si : Nat} {d : D} {r : RRu} (hd : Dp 4 d) (h : RuIs d r) (hr : r.ok) (hs : ∀ (x : D) (i : RIt), ItIs x i → i.ok → call si [x] = .ret (.lst true (iL (spIt i))) [x]) : runFn call W (fnSgRule si) [d] = .ret (.lst true (iL (spRu r))) [d] := by
  obtain ⟨c, xs, rfl, fc, hi, ha⟩ := h
  have dc := (hd.2 _ rfl).2 c (by simp)
  have tc := topfz_id fc
  have lc : bop .len [c] = some (.int (xs.length : Nat)) := by cases c <;> first | (cases hi; done) | (cases hi; rfl)
  have q1 : ¬ (("end" : Str) = ("other" : Str)) := by decide
  have z1 := sz1
  have z2 := sz2
  have a3 : atI [.int r.st, r.wd.d, c, optD r.nx] 3 = some (optD r.nx) := atI_nat _ 3
  have tw : r.wd.d.topfz = r.wd.d := topfz_id (by simp)
  have tx : (optD r.nx).topfz = optD r.nx := topfz_id (by simp)
  have wl : (spWd r.wd).length ≤ 2 := by cases r.wd <;> simp [spWd]
  have il := spIts_len hr.its
  have lenr := hr.len
  have big : (20000 : Nat) ≤ sizeLine := by rw [sizeLine_eq]; decide
  have hlen := ha.len
  obtain ⟨x', go⟩ := sgs_go (W := W) (m := .tup [.int r.st, r.wd.d, c, optD r.nx]) hs xs r.its (r.st :: (spWd r.wd ++ [(r.its.length : Int)])) none ha hr.its (fun y hy => ((dc.2 xs hi).2 y hy).fz) (by simp only [List.length_append, List.length_cons, List.length_nil]; omega)
  have e1 : r.st :: (spWd r.wd ++ [(r.its.length : Int)]) ++ spIts r.its = r.st :: (spWd r.wd ++ ((r.its.length : Int) :: spIts r.its)) := by simp
  rw [e1] at go
  have a0 : (0 : Nat) ∉ (fnSgRule si).body.asg := by simp [fnSgRule, sSR0, sSR1, sSR2, sSR3, sSR4, sSR5, B.asg, S.asg, Tg.asg]
  generalize hD : (D.tup [.int r.st, r.wd.d, c, optD r.nx]) = dd at go
  refine runFn_rt (E1 := [some dd, none, x']) rfl (show 1 ≤ 3 by decide) ?_ (by simp only [fins, if_neg a0]; rfl)
  subst hD
  show exs call W none (fnSgRule si).body [some (.tup [.int r.st, r.wd.d, c, optD r.nx]), none, none] = _
  unfold fnSgRule
  refine exs_step (E1 := [some (.tup [.int r.st, r.wd.d, c, optD r.nx]), some (.lst true (iL [r.st])), none]) (by simp [sSR0, runFn, exs, ex, ev, evs, evA, back, sv, svs, Tg.bind, ixP, fins, B.asg, S.asg, Tg.asg, deq_int, atI_0, z1, iL]) ?_
  refine exs_step (E1 := [some (.tup [.int r.st, r.wd.d, c, optD r.nx]), some (.lst true (iL (r.st :: spWd r.wd))), none]) ?_ ?_
  · have l1 : (1 : Nat) < sizeLine := by omega
    have l3 : (3 : Nat) ≤ sizeLine := by omega
    cases r.wd <;> simp [sSR1, runFn, exs, ex, ev, evs, evA, back, sv, svs, Tg.bind, ixP, fins, B.asg, S.asg, Tg.asg, deq_int, atI_1, mutD, RWd.d, spWd, deq_strD, q1, iL, l1, l3, z2]
  have l6 : (iL (r.st :: spWd r.wd)).length < sizeLine := by rw [List.length_map, List.length_cons]; omega
  have e2 : iL (r.st :: spWd r.wd) ++ [.int (r.its.length : Int)] = iL (r.st :: (spWd r.wd ++ [(r.its.length : Int)])) := by simp [iL]
  refine exs_step (E1 := [some (.tup [.int r.st, r.wd.d, c, optD r.nx]), some (.lst true (iL (r.st :: (spWd r.wd ++ [(r.its.length : Int)])))), none]) ?_ ?_
  · rw [← e2, ← hlen]
    generalize iL (r.st :: spWd r.wd) = L at l6 ⊢
    generalize (xs.length : Int) = n at *
    simp [sSR2, runFn, exs, ex, ev, evs, evA, back, sv, svs, Tg.bind, ixP, fins, B.asg, S.asg, Tg.asg, deq_int, atI_2, mutD, tc, lc, l6]
  refine exs_step (E1 := [some (.tup [.int r.st, r.wd.d, c, optD r.nx]), some (.lst true (iL (r.st :: (spWd r.wd ++ ((r.its.length : Int) :: spIts r.its))))), x']) ?_ ?_
  · unfold sSR3
    rw [ex_fors]
    generalize iL (r.st :: (spWd r.wd ++ [(r.its.length : Int)])) = L1 at go ⊢
    have : evSrc call none (.sx (.op .idx (.cons (.var 0) (.cons (.cst (.int 2)) .nil)))) [some (.tup [.int r.st, r.wd.d, c, optD r.nx]), some (.lst true L1), none] = .ok xs [some (.tup [.int r.st, r.wd.d, c, optD r.nx]), some (.lst true L1), none] := by
      simp [evSrc, runFn, exs, ex, ev, evs, evA, back, sv, svs, Tg.bind, ixP, fins, B.asg, S.asg, Tg.asg, deq_int, atI_2, tc, fc, hi]
    rw [this]
    exact go
  have l5' : (iL (r.st :: (spWd r.wd ++ ((r.its.length : Int) :: spIts r.its)))).length < sizeLine := by
    rw [List.length_map]
    simp only [List.length_append, List.length_cons]
    omega
  have e3 : iL (spRu r) = iL (r.st :: (spWd r.wd ++ ((r.its.length : Int) :: spIts r.its))) ++ iL (spOp r.nx) := by
    rw [iL_app]
    simp [spRu]
  refine exs_step (E1 := [some (.tup [.int r.st, r.wd.d, c, optD r.nx]), some (.lst true (iL (spRu r))), x']) ?_ ?_
  · rw [e3]
    generalize iL (r.st :: (spWd r.wd ++ ((r.its.length : Int) :: spIts r.its))) = L2 at l5' ⊢
    cases hn : r.nx with
    | none =>
      rw [hn] at a3
      simp only [optD] at a3
      simp [sSR4, runFn, exs, ex, ev, evs, evA, back, sv, svs, Tg.bind, ixP, fins, B.asg, S.asg, Tg.asg, deq_int, a3, optD, spOp, iL]
    | some v =>
      rw [hn] at a3
      simp only [optD] at a3
      simp [sSR4, runFn, exs, ex, ev, evs, evA, back, sv, svs, Tg.bind, ixP, fins, B.asg, S.asg, Tg.asg, deq_int, a3, mutD, l5', optD, spOp, iL]
  · generalize iL (spRu r) = L
    simp [sSR5, runFn, exs, ex, ev, evs, evA, back, sv, svs, Tg.bind, ixP, fins, B.asg, S.asg, Tg.asg, deq_int]
/-! ### body_for -/
def seqO (o : O) (f : En → O) : O := match o with
  | .nx E => f E
  | o => o
def firstBad : Nat → List D → Option Nat
  | _, [] => none
  | k, d :: ds => if ruB d = true then firstBad (k + 1) ds else some k
@[simp] theorem asg_lpBody {rl sr c} : (lpBody rl sr c).asg = [] := rfl
theorem body_go {rl sr c : Nat} {st ru : Option D} (h1 : ∀ x : D, Dp 4 x → call rl [x] = .ret (.bl (ruB x)) [x]) (h2 : ∀ (x : D) (r : RRu), Dp 4 x → RuIs x r → r.ok → call sr [x] = .ret (.lst true (iL (spRu r))) [x]) : ∀ (xs : List D) (k : Nat) (ws : List Int) (a b : Option D), (∀ x ∈ xs, Dp 4 x) → ws.length + 11000 * xs.length ≤ sizeLine →
    (∀ j, firstBad k xs = some j → ∃ l a' b', forGo (.tup [3, 4]) (exs call W none (lpBody rl sr c)) (enumD k xs) [st, ru, some (.lst true (iL ws)), a, b] = .exc c (.int (j : Nat)) [st, ru, l, a', b']) ∧
    (firstBad k xs = none → ∃ rs a' b', (∀ r ∈ rs, r.ok) ∧ RusAre xs rs ∧ forGo (.tup [3, 4]) (exs call W none (lpBody rl sr c)) (enumD k xs) [st, ru, some (.lst true (iL ws)), a, b] = .nx [st, ru, some (.lst true (iL (ws ++ spRus rs))), a', b'])
  | [], k, ws, a, b, _, _ => ⟨fun j h => (by cases h), fun _ => ⟨[], a, b, fun r hr => (List.not_mem_nil hr).elim, trivial, by simp [enumD, forGo, spRus]⟩⟩
  | x :: xs, k, ws, a, b, hd, hl => by
    have dx := hd x List.mem_cons_self
    have fx := dx.fz
    have c1 := h1 x dx
    simp only [List.length_cons] at hl
    have st1 : forGo (.tup [3, 4]) (exs call W none (lpBody rl sr c)) (enumD k (x :: xs)) [st, ru, some (.lst true (iL ws)), a, b] = turnO (exs call W none (lpBody rl sr c) [st, ru, some (.lst true (iL ws)), some (.int (k : Nat)), some x]) (forGo (.tup [3, 4]) (exs call W none (lpBody rl sr c)) (enumD (k + 1) xs)) := by
      show forGo (.tup [3, 4]) _ (.tup [.int (k : Nat), x] :: enumD (k + 1) xs) _ = _
      rw [forGo_cons]
      rfl
    by_cases hr : ruB x = true
    · obtain ⟨r, ok, hx⟩ := ruB_inv dx hr
      have c2 := h2 x r dx hx ok
      have bl := spRu_len ok 99 ok.len
      obtain ⟨g1, g2⟩ := body_go h1 h2 (st := st) (ru := ru) (c := c) xs (k + 1) (ws ++ spRu r) (some (.int (k : Nat))) (some x) (fun y hy => hd y (List.mem_cons_of_mem _ hy)) (by rw [List.length_append]; omega)
      have e1 : exs call W none (lpBody rl sr c) [st, ru, some (.lst true (iL ws)), some (.int (k : Nat)), some x] = .nx [st, ru, some (.lst true (iL (ws ++ spRu r))), some (.int (k : Nat)), some x] := by
        have l1 : (iL ws).length = ws.length := List.length_map _
        have l2 : (iL (spRu r)).length = (spRu r).length := List.length_map _
        have ff : fzL (iL (spRu r)) = true := fzL_ints
        have le : (iL ws).length + (iL (spRu r)).length ≤ sizeLine := by rw [l1, l2]; omega
        rw [hr] at c1
        rw [← iL_app]
        generalize iL (spRu r) = M at c2 ff le ⊢
        generalize iL ws = L at le ⊢
        simp [lpBody, runFn, exs, ex, ev, evs, evA, back, sv, svs, Tg.bind, ixP, fins, B.asg, S.asg, Tg.asg, deq_int, c1, c2, fx, mutD, ff, le]
      have fb : firstBad k (x :: xs) = firstBad (k + 1) xs := if_pos hr
      rw [st1, e1, turnO_nx', fb]
      refine ⟨g1, fun h => ?_⟩
      obtain ⟨rs, a', b', k1, k2, k3⟩ := g2 h
      exact ⟨r :: rs, a', b', fun j hj => (List.mem_cons.mp hj).elim (fun e => e ▸ ok) (k1 j), ⟨hx, k2⟩, k3.trans (by rw [List.append_assoc] <;> rfl)⟩
    · have hr' : ruB x = false := by simpa using hr
      rw [hr'] at c1
      have fb : firstBad k (x :: xs) = some k := if_neg hr
      have e1 : exs call W none (lpBody rl sr c) [st, ru, some (.lst true (iL ws)), some (.int (k : Nat)), some x] = .exc c (.int (k : Nat)) [st, ru, some (.lst true (iL ws)), some (.int (k : Nat)), some x] := by
        generalize iL ws = L
        generalize (k : Int) = k
        simp [lpBody, runFn, exs, ex, ev, evs, evA, back, sv, svs, Tg.bind, ixP, fins, B.asg, S.asg, Tg.asg, deq_int, c1, fx]
      rw [st1, e1, fb]
      exact ⟨fun j h => (by cases h; exact ⟨_, _, _, rfl⟩), fun h => (by cases h)⟩
/-- what body_for tells of any start and any deep rules -/
theorem bodyFor {cs rl sr c c2 : Nat} {s d : D} (hs : s.fz = true) (hd : Dp 5 d) (hl : ∀ xs, d.items = some xs → xs.length ≤ 1000) (h0 : call cs [s] = if sgB 100 s = true then .ret s [s] else .exc c2 s.frz [s])
    (h1 : ∀ x : D, Dp 4 x → call rl [x] = .ret (.bl (ruB x)) [x]) (h2 : ∀ (x : D) (r : RRu), Dp 4 x → RuIs x r → r.ok → call sr [x] = .ret (.lst true (iL (spRu r))) [x]) :
    (sgB 100 s = false → runFn call W (fnBodyFor cs rl sr c) [s, d] = .exc c2 s.frz [s, d]) ∧
    (sgB 100 s = true → d.items = none → runFn call W (fnBodyFor cs rl sr c) [s, d] = .exc c (.int (-1)) [s, d]) ∧
    (∀ n xs j, s = .int n → sgB 100 s = true → d.items = some xs → firstBad 0 xs = some j → runFn call W (fnBodyFor cs rl sr c) [s, d] = .exc c (.int (j : Nat)) [s, d]) ∧
    (∀ n xs, s = .int n → sgB 100 s = true → d.items = some xs → firstBad 0 xs = none → ∃ rs, (∀ r ∈ rs, r.ok) ∧ RusAre xs rs ∧ runFn call W (fnBodyFor cs rl sr c) [s, d] = .ret (.tup (iL (n :: spRus rs))) [s, d]) := by
  have fd := hd.fz
  have z1 := sz1
  have a0 : (0 : Nat) ∉ (fnBodyFor cs rl sr c).body.asg := by simp [fnBodyFor, sBF0, sBF1, sBF2, sBF3, sBF4, B.asg, S.asg, Tg.asg]
  have a1 : (1 : Nat) ∉ (fnBodyFor cs rl sr c).body.asg := by simp [fnBodyFor, sBF0, sBF1, sBF2, sBF3, sBF4, B.asg, S.asg, Tg.asg]
  have exc : ∀ {k : Nat} {v : D} {l a b : Option D}, exs call W none (fnBodyFor cs rl sr c).body [some s, some d, none, none, none] = .exc k v [some s, some d, l, a, b] → runFn call W (fnBodyFor cs rl sr c) [s, d] = .exc k v [s, d] := fun {k v l a b} h =>
    runFn_exc (E1 := [some s, some d, l, a, b]) rfl (show 2 ≤ 5 by decide) h (by simp only [fins, if_neg a0, Nat.zero_add, if_neg a1]; rfl)
  have kd : ∀ xs, d.items = some xs → d.kd = .lst ∨ d.kd = .tup := fun xs hi => by cases d <;> first | (cases hi; done) | exact .inl rfl | exact .inr rfl
  -- up to the loop
  have head : ∀ {n : Int} {xs : List D} {o : O}, s = .int n → sgB 100 s = true → d.items = some xs → forGo (.tup [3, 4]) (exs call W none (lpBody rl sr c)) (enumD 0 xs) [some s, some d, some (.lst true (iL [n])), none, none] = o → ∀ {o2 : O}, seqO o (fun E => exs call W none (.cons (sBF4 cs rl sr c) .nil) E) = o2 → exs call W none (fnBodyFor cs rl sr c).body [some s, some d, none, none, none] = o2 := fun {n xs o} hn hs1 hi g {o2} k => by
    rw [if_pos hs1] at h0
    have kk := kd xs hi
    show exs call W none _ _ = _
    unfold fnBodyFor
    refine exs_step (E1 := [some s, some d, none, none, none]) (by simp [sBF0, runFn, exs, ex, ev, evs, evA, back, sv, svs, Tg.bind, ixP, fins, B.asg, S.asg, Tg.asg, deq_int, h0, hs]) ?_
    refine exs_step (E1 := [some s, some d, none, none, none]) (by rcases kk with kk | kk <;> simp [sBF1, runFn, exs, ex, ev, evs, evA, back, sv, svs, Tg.bind, ixP, fins, B.asg, S.asg, Tg.asg, deq_int, Kd.isTy, kk]) ?_
    subst hn
    refine exs_step (E1 := [some (.int n), some d, some (.lst true (iL [n])), none, none]) (by simp [sBF2, runFn, exs, ex, ev, evs, evA, back, sv, svs, Tg.bind, ixP, fins, B.asg, S.asg, Tg.asg, deq_int, z1, iL]) ?_
    have : ex call W none (sBF3 cs rl sr c) [some (.int n), some d, some (.lst true (iL [n])), none, none] = o := by
      unfold sBF3
      rw [ex_fors]
      have : evSrc call none (.enum (.var 1)) [some (.int n), some d, some (.lst true (iL [n])), none, none] = .ok (enumD 0 xs) [some (.int n), some d, some (.lst true (iL [n])), none, none] := by
        show (match some d with | some d => if d.fz = true then (match d.items with | some ds => R.ok (enumD 0 ds) _ | none => .bad) else .bad | none => .bad) = _
        simp only [fd, hi, if_true]
      rw [this]
      exact g
    show (match ex call W none (sBF3 cs rl sr c) [some (.int n), some d, some (.lst true (iL [n])), none, none] with | .nx E1 => exs call W none (.cons (sBF4 cs rl sr c) .nil) E1 | o => o) = _
    rw [this, ← k]
    cases o <;> rfl
  have go := fun (n : Int) (xs : List D) (hi : d.items = some xs) => body_go (W := W) (c := c) (st := some s) (ru := some d) h1 h2 xs 0 [n] none none (fun x hx => (hd.2 xs hi).2 x hx) (by rw [sizeLine_eq]; have := hl xs hi; simp; omega)
  refine ⟨fun h => ?_, fun h hi => ?_, fun n xs j hn h hi hb => ?_, fun n xs hn h hi hb => ?_⟩
  · rw [if_neg (by rw [h]; exact Bool.false_ne_true)] at h0
    refine exc (l := none) (a := none) (b := none) ?_
    unfold fnBodyFor
    exact exs_exc (by simp [sBF0, runFn, exs, ex, ev, evs, evA, back, sv, svs, Tg.bind, ixP, fins, B.asg, S.asg, Tg.asg, deq_int, h0, hs])
  · rw [if_pos h] at h0
    refine exc (l := none) (a := none) (b := none) ?_
    unfold fnBodyFor
    refine exs_step (E1 := [some s, some d, none, none, none]) (by simp [sBF0, runFn, exs, ex, ev, evs, evA, back, sv, svs, Tg.bind, ixP, fins, B.asg, S.asg, Tg.asg, deq_int, h0, hs]) ?_
    refine exs_exc ?_
    have nk : d.kd.isTy .list = false ∧ d.kd.isTy .tuple = false := by cases d <;> first | (cases hi; done) | exact ⟨rfl, rfl⟩
    simp [sBF1, runFn, exs, ex, ev, evs, evA, back, sv, svs, Tg.bind, ixP, fins, B.asg, S.asg, Tg.asg, deq_int, nk.1, nk.2]
  · obtain ⟨l, a', b', g⟩ := (go n xs hi).1 j hb
    exact exc (head hn h hi g rfl)
  · obtain ⟨rs, a', b', k1, k2, g⟩ := (go n xs hi).2 hb
    refine ⟨rs, k1, k2, ?_⟩
    refine runFn_rt (E1 := [some s, some d, some (.lst true (iL ([n] ++ spRus rs))), a', b']) rfl (show 2 ≤ 5 by decide) (head hn h hi g ?_) (by simp only [fins, if_neg a0, Nat.zero_add, if_neg a1]; rfl)
    have ff : fzL (iL ([n] ++ spRus rs)) = true := fzL_ints
    show exs call W none (.cons (sBF4 cs rl sr c) .nil) _ = .rt (.tup (iL ([n] ++ spRus rs))) _
    generalize iL ([n] ++ spRus rs) = L at ff ⊢
    simp [sBF4, runFn, exs, ex, ev, evs, evA, back, sv, svs, Tg.bind, ixP, fins, B.asg, S.asg, Tg.asg, deq_int, ff]
end
end VM

namespace VM
open PySem L2
/-! ### what is written is read -/
theorem drop_cons {ws t : List Int} {p : Nat} {a : Int} (h : ws.drop p = a :: t) : p < ws.length ∧ gw ws p = a ∧ ws.drop (p + 1) = t := by
  have hl : p < ws.length := by
    have := congrArg List.length h
    rw [List.length_drop, List.length_cons] at this
    omega
  rw [drop_gw hl] at h
  exact ⟨hl, (List.cons.inj h).1, (List.cons.inj h).2⟩
theorem drop_app : ∀ {ws a b : List Int} {p : Nat}, ws.drop p = a ++ b → ws.drop (p + a.length) = b
  | ws, a, b, p, h => by
    rw [← List.drop_drop, h, List.drop_left]
theorem rdIt_of {ws t : List Int} {p : Nat} {i : RIt} (hi : i.ok) (h : ws.drop p = spIt i ++ t) : rdIt ws p = some (i, p + (spIt i).length) := by
  cases i with
  | put xs =>
    have h : ws.drop p = 0 :: ((xs.length : Int) :: (xs ++ t)) := h
    obtain ⟨l0, g0, d0⟩ := drop_cons h
    obtain ⟨l1, g1, d1⟩ := drop_cons d0
    have d1 : ws.drop (p + 2) = xs ++ t := d1
    have hl : ¬ ws.length < p + 2 + xs.length := by
      have := congrArg List.length d1
      rw [List.length_drop, List.length_append] at this
      omega
    unfold rdIt
    rw [if_pos l1, if_pos g0, g1, Int.toNat_natCast, if_neg hl, d1, List.take_left]
    simp [spIt]
    omega
  | plus a =>
    have h : ws.drop p = 1 :: (a :: t) := h
    obtain ⟨l0, g0, d0⟩ := drop_cons h
    obtain ⟨l1, g1, d1⟩ := drop_cons d0
    unfold rdIt
    rw [if_pos l1, g0, if_neg (by decide), if_pos rfl, g1] <;> rfl
  | own a b =>
    have h : ws.drop p = 2 :: (a :: (b :: t)) := h
    obtain ⟨l0, g0, d0⟩ := drop_cons h
    obtain ⟨l1, g1, d1⟩ := drop_cons d0
    obtain ⟨l2, g2, d2⟩ := drop_cons d1
    unfold rdIt
    rw [if_pos l1, g0, if_neg (by decide), if_neg (by decide), if_pos ⟨rfl, l2⟩, g1, g2] <;> rfl
theorem rdIts_of {ws : List Int} : ∀ {is : List RIt} {t : List Int} {p : Nat}, (∀ i ∈ is, i.ok) → ws.drop p = spIts is ++ t → rdIts ws is.length p = some (is, p + (spIts is).length)
  | [], t, p, _, _ => rfl
  | i :: is, t, p, ok, h => by
    have h : ws.drop p = (spIt i ++ spIts is) ++ t := h
    rw [List.append_assoc] at h
    have e1 := rdIt_of (ok i List.mem_cons_self) h
    have e2 := rdIts_of (is := is) (fun j hj => ok j (List.mem_cons_of_mem _ hj)) (drop_app h)
    show (match rdIt ws p with | none => none | some (i, q) => match rdIts ws is.length q with | none => none | some (is, e) => some (i :: is, e)) = _
    simp only [e1, e2]
    show some (i :: is, _) = some (i :: is, p + (spIt i ++ spIts is).length)
    rw [List.length_append, Nat.add_assoc]
theorem rdWd_of {ws t : List Int} {p : Nat} {w : RWd} (h : ws.drop p = spWd w ++ t) : rdWd ws p = some (w, p + (spWd w).length) := by
  cases w with
  | sg a =>
    have h : ws.drop p = 0 :: (a :: t) := h
    obtain ⟨l0, g0, d0⟩ := drop_cons h
    obtain ⟨l1, g1, d1⟩ := drop_cons d0
    unfold rdWd
    rw [if_pos l0, g0, if_neg (by decide), if_neg (by decide), if_pos ⟨rfl, l1⟩, g1] <;> rfl
  | other =>
    obtain ⟨l0, g0, d0⟩ := drop_cons (a := 1) (t := t) h
    unfold rdWd
    rw [if_pos l0, if_pos g0] <;> rfl
  | fin =>
    obtain ⟨l0, g0, d0⟩ := drop_cons (a := 2) (t := t) h
    unfold rdWd
    rw [if_pos l0, g0, if_neg (by decide), if_pos rfl] <;> rfl
theorem rdRu_of {ws t : List Int} {p : Nat} {r : RRu} (hr : r.ok) (h : ws.drop p = spRu r ++ t) : rdRu ws p = some (r, p + (spRu r).length) := by
  have h : ws.drop p = r.st :: (spWd r.wd ++ ((r.its.length : Int) :: (spIts r.its ++ spOp r.nx))) ++ t := h
  rw [List.cons_append, List.append_assoc] at h
  obtain ⟨l0, g0, d0⟩ := drop_cons h
  have e1 := rdWd_of d0
  have d1 := drop_app d0
  rw [List.cons_append] at d1
  obtain ⟨l1, g1, d2⟩ := drop_cons d1
  rw [List.append_assoc] at d2
  have e2 := rdIts_of hr.its d2
  have d3 := drop_app d2
  have len : (spRu r).length = 1 + (spWd r.wd).length + 1 + (spIts r.its).length + (spOp r.nx).length := by
    simp only [spRu, List.length_cons, List.length_append]
    omega
  unfold rdRu
  simp only [e1, if_pos l1, g1, Int.toNat_natCast, e2]
  have hn := hr.nx
  cases e : r.nx with
  | none =>
    rw [e] at hn d3
    have hn : r.wd = .fin := hn
    have er : ({ st := r.st, wd := r.wd, its := r.its, nx := none } : RRu) = r := by rw [← e]
    rw [if_pos (by rw [hn] <;> rfl), g0, er]
    refine congrArg some (Prod.ext rfl ?_)
    rw [len, e]
    simp only [spOp, List.length_nil]
    omega
  | some v =>
    rw [e] at hn d3
    have hn : Sg v ∧ r.wd ≠ .fin := hn
    obtain ⟨l3, g3, d4⟩ := drop_cons (a := v) (t := t) d3
    have nf : ¬ r.wd.isFin = true := fun k => hn.2 (by cases hw : r.wd <;> rw [hw] at k <;> first | rfl | cases k)
    have er : ({ st := r.st, wd := r.wd, its := r.its, nx := some v } : RRu) = r := by rw [← e]
    rw [if_neg nf, if_pos l3, g0, g3, er]
    refine congrArg some (Prod.ext rfl ?_)
    rw [len, e]
    simp only [spOp, List.length_cons, List.length_nil]
    omega
theorem rds_of {ws : List Int} : ∀ {rs : List RRu} {t : List Int} {n p : Nat}, (∀ r ∈ rs, r.ok) → ws.drop p = spRus rs ++ t → rs.length ≤ n → (t = [] ∨ rdRu ws (p + (spRus rs).length) = none) → rds ws n p = (rs, p + (spRus rs).length)
  | [], t, 0, p, _, _, _, _ => rfl
  | [], t, n + 1, p, _, h, _, ht => by
    show (if p < ws.length then _ else _) = _
    rcases ht with rfl | ht
    · have h : ws.drop p = [] := h
      have hl : ¬ p < ws.length := by
        have := congrArg List.length h
        rw [List.length_drop] at this
        simp at this
        omega
      rw [if_neg hl] <;> rfl
    · have ht : rdRu ws p = none := ht
      split
      · simp only [ht] <;> rfl
      · rfl
  | r :: rs, t, 0, p, _, _, hn, _ => by simp at hn
  | r :: rs, t, n + 1, p, ok, h, hn, ht => by
    have h : ws.drop p = (spRu r ++ spRus rs) ++ t := h
    rw [List.append_assoc] at h
    have e1 := rdRu_of (ok r List.mem_cons_self) h
    have hl : p < ws.length := by
      have : ws.drop p = r.st :: _ := h
      exact (drop_cons this).1
    have len : (spRus (r :: rs)).length = (spRu r).length + (spRus rs).length := by
      show (spRu r ++ spRus rs).length = _
      rw [List.length_append]
    have e2 := rds_of (n := n) (rs := rs) (fun j hj => ok j (List.mem_cons_of_mem _ hj)) (drop_app h) (by simpa using hn) (by rw [len, ← Nat.add_assoc] at ht; exact ht)
    show (if p < ws.length then (match rdRu ws p with | none => ([], p) | some (r, q) => (r :: (rds ws n q).1, (rds ws n q).2)) else ([], p)) = _
    rw [if_pos hl, e1]
    simp only [e2, len, Nat.add_assoc]
theorem spRus_long : ∀ rs : List RRu, rs.length ≤ (spRus rs).length
  | [] => Nat.le_refl _
  | r :: rs => by
    have := spRus_long rs
    have h1 : 1 ≤ (spRu r).length := by simp [spRu]
    show rs.length + 1 ≤ (spRu r ++ spRus rs).length
    rw [List.length_append]
    omega
/-- a body that is written, a tail behind it, is read -/
theorem rdAll_of {st : Int} {rs : List RRu} {t : List Int} (ok : ∀ r ∈ rs, r.ok) (ht : t = [] ∨ rdRu (st :: (spRus rs ++ t)) (1 + (spRus rs).length) = none) : rdAll (st :: (spRus rs ++ t)) = (rs, 1 + (spRus rs).length) := by
  unfold rdAll
  rw [if_neg (by simp)]
  have := spRus_long rs
  exact rds_of ok (t := t) rfl (by simp only [List.length_cons, List.length_append]; omega) ht
end VM

namespace VM
open PySem L2
/-! ### rules handed in, as lists or tuples -/
theorem iL_inj : ∀ {a b : List Int}, iL a = iL b → a = b
  | [], [], _ => rfl
  | [], _ :: _, h => by cases h
  | _ :: _, [], h => by cases h
  | x :: a, y :: b, h => by
    have h : D.int x :: iL a = D.int y :: iL b := h
    injection h with h1 h2
    injection h1 with h1
    rw [h1, iL_inj h2]
theorem RowIs.items {x : D} {ws : List Int} (h : RowIs x ws) : x.items = some (iL ws) := by
  rcases h.2 with rfl | ⟨o, rfl⟩ | rfl <;> rfl
theorem ItIs.uniq {d : D} {i j : RIt} (h : ItIs d i) (k : ItIs d j) : i = j := by
  cases i with
  | put xs =>
    obtain ⟨x, rfl, hx⟩ := h
    cases j with
    | put ys =>
      obtain ⟨y, e, hy⟩ := k
      injection e with e
      injection e with _ e
      injection e with e
      subst e
      have := Option.some.inj (hx.items.symm.trans hy.items)
      rw [iL_inj this]
    | plus a => injection (show D.tup _ = D.tup _ from k) with e; injection e with e _; injection e with e; exact absurd e (by decide)
    | own a b => injection (show D.tup _ = D.tup _ from k) with e; injection e with e _; injection e with e; exact absurd e (by decide)
  | plus a =>
    obtain rfl : d = .tup [.str "plus", .int a] := h
    cases j with
    | put ys =>
      obtain ⟨y, e, hy⟩ := k
      injection e with e; injection e with e _; injection e with e; exact absurd e (by decide)
    | plus b => injection (show D.tup _ = D.tup _ from k) with e; injection e with _ e; injection e with e _; injection e with e; rw [e]
    | own b c => injection (show D.tup _ = D.tup _ from k) with e; injection e with e _; injection e with e; exact absurd e (by decide)
  | own a c =>
    obtain rfl : d = .tup [.str "own", .int a, .int c] := h
    cases j with
    | put ys =>
      obtain ⟨y, e, hy⟩ := k
      injection e with e; injection e with e _; injection e with e; exact absurd e (by decide)
    | plus b => injection (show D.tup _ = D.tup _ from k) with e; injection e with e _; injection e with e; exact absurd e (by decide)
    | own b f =>
      injection (show D.tup _ = D.tup _ from k) with e
      injection e with _ e
      injection e with e1 e
      injection e with e2 _
      injection e1 with e1
      injection e2 with e2
      rw [e1, e2]
theorem ItsAre.uniq : ∀ {ds : List D} {is js : List RIt}, ItsAre ds is → ItsAre ds js → is = js
  | [], [], [], _, _ => rfl
  | d :: ds, i :: is, j :: js, h, k => by rw [h.1.uniq k.1, h.2.uniq k.2]
  | [], _ :: _, _, h, _ => h.elim
  | [], [], _ :: _, _, k => k.elim
  | _ :: _, [], _, h, _ => h.elim
  | _ :: _, _ :: _, [], _, k => k.elim
theorem RWd.inj {v w : RWd} (h : v.d = w.d) : v = w := by
  cases v <;> cases w <;> first | rfl | (injection h with h; rw [h]; done) | (injection h with h; exact absurd h (by decide)) | cases h
theorem optD_inj {v w : Option Int} (h : optD v = optD w) : v = w := by
  cases v <;> cases w <;> first | rfl | (injection h with h; rw [h]; done) | cases h
theorem RuIs.uniq {d : D} {r q : RRu} (h : RuIs d r) (k : RuIs d q) : r = q := by
  obtain ⟨c, xs, rfl, _, hi, ha⟩ := h
  obtain ⟨c', xs', e, _, hi', ha'⟩ := k
  injection e with e
  injection e with e1 e
  injection e with e2 e
  injection e with e3 e
  injection e with e4 _
  injection e1 with e1
  subst e3
  have := Option.some.inj (hi.symm.trans hi')
  subst this
  have a := ha.uniq ha'
  have b := RWd.inj e2
  have c := optD_inj e4
  cases r
  cases q
  simp only at *
  subst a b c e1
  rfl
theorem RusAre.uniq : ∀ {ds : List D} {is js : List RRu}, RusAre ds is → RusAre ds js → is = js
  | [], [], [], _, _ => rfl
  | d :: ds, i :: is, j :: js, h, k => by rw [h.1.uniq k.1, h.2.uniq k.2]
  | [], _ :: _, _, h, _ => h.elim
  | [], [], _ :: _, _, k => k.elim
  | _ :: _, [], _, h, _ => h.elim
  | _ :: _, _ :: _, [], _, k => k.elim
theorem itB_of {d : D} {i : RIt} (h : ItIs d i) (ok : i.ok) : itB d = true := by
  cases i with
  | put xs =>
    obtain ⟨x, rfl, hx⟩ := h
    have r : rowB x = true := by rcases hx.2 with rfl | ⟨o, rfl⟩ | rfl <;> exact allSg_of ok.1
    have l : lenD x ≤ 99 := by
      unfold lenD
      rw [hx.items]
      simpa using ok.2
    have e : itB (.tup [.str "put", x]) = (rowB x && decide (lenD x ≤ 99)) := by simp [itB]
    rw [e, r, decide_eq_true l] <;> rfl
  | plus a =>
    obtain rfl : d = .tup [.str "plus", .int a] := h
    have q : ¬ (("plus" : Str) = ("put" : Str)) := by decide
    have e : itB (.tup [.str "plus", .int a]) = sgB 100 (.int a) := by simp [itB, q]
    rw [e]
    exact decide_eq_true ok
  | own a b =>
    obtain rfl : d = .tup [.str "own", .int a, .int b] := h
    show (if ("own" : Str) = "own" then sgB 100 (.int a) && sgB 100 (.int b) else false) = true
    rw [if_pos rfl, show sgB 100 (.int a) = true from decide_eq_true ok.1, show sgB 100 (.int b) = true from decide_eq_true ok.2] <;> rfl
theorem its_all : ∀ {ds : List D} {is : List RIt}, ItsAre ds is → (∀ i ∈ is, i.ok) → ds.all itB = true
  | [], [], _, _ => rfl
  | d :: ds, i :: is, h, ok => by
    rw [List.all_cons, itB_of h.1 (ok i List.mem_cons_self), its_all h.2 fun j hj => ok j (List.mem_cons_of_mem _ hj)] <;> rfl
  | [], _ :: _, h, _ => h.elim
  | _ :: _, [], h, _ => h.elim
theorem ruB_of {d : D} {r : RRu} (h : RuIs d r) (ok : r.ok) : ruB d = true := by
  obtain ⟨c, xs, rfl, _, hi, ha⟩ := h
  have l : xs.length ≤ 99 := by rw [ha.len]; exact ok.len
  have s1 : sgB 100 (.int r.st) = true := decide_eq_true ok.st
  have e2 : wnB r.wd.d (optD r.nx) = true := by
    have hn := ok.nx
    have hw := ok.wd
    cases e : r.nx with
    | none =>
      rw [e] at hn
      have hn : r.wd = .fin := hn
      rw [hn]
      rfl
    | some v =>
      rw [e] at hn
      have hn : Sg v ∧ r.wd ≠ .fin := hn
      have sv : sgB 100 (.int v) = true := decide_eq_true hn.1
      cases ew : r.wd with
      | sg a =>
        rw [ew] at hw
        show (sgB 100 (.int a) && sgB 100 (.int v)) = true
        rw [sv, show sgB 100 (.int a) = true from decide_eq_true hw] <;> rfl
      | other =>
        show (if ("other" : Str) = "end" then (D.int v).isNon else ("other" : Str) == "other" && sgB 100 (.int v)) = true
        rw [if_neg (by decide), sv] <;> rfl
      | fin => exact absurd ew hn.2
  show (sgB 100 (.int r.st) && (match c.items with | some xs => decide (xs.length ≤ 99) && xs.all itB | none => false) && wnB r.wd.d (optD r.nx)) = true
  rw [s1, hi]
  show ((true && (decide (xs.length ≤ 99) && xs.all itB)) && wnB r.wd.d (optD r.nx)) = true
  rw [decide_eq_true l, its_all ha ok.its, e2] <;> rfl
theorem noBad : ∀ {ds : List D} {rs : List RRu} (k : Nat), RusAre ds rs → (∀ r ∈ rs, r.ok) → firstBad k ds = none
  | [], [], _, _, _ => rfl
  | d :: ds, r :: rs, k, h, ok => by
    show (if ruB d = true then firstBad (k + 1) ds else some k) = none
    rw [if_pos (ruB_of h.1 (ok r List.mem_cons_self))]
    exact noBad (k + 1) h.2 fun j hj => ok j (List.mem_cons_of_mem _ hj)
  | [], _ :: _, _, h, _ => h.elim
  | _ :: _, [], _, h, _ => h.elim
/-- an item whose row lies as a list (v), a rule whose items lie as a list (w) -/
def itV (v : Bool) : RIt → D
  | .put xs => .tup [.str "put", if v = true then .lst false (iL xs) else .tup (iL xs)]
  | i => i.d
def ruV (v w : Bool) (r : RRu) : D := .tup [.int r.st, r.wd.d, if w = true then .lst false (r.its.map (itV v)) else .tup (r.its.map (itV v)), optD r.nx]
theorem itV_f (i : RIt) : itV false i = i.d := by cases i <;> rfl
theorem ruV_f (r : RRu) : ruV false false r = r.d := by
  unfold ruV RRu.d
  have : itV false = RIt.d := funext itV_f
  rw [this] <;> rfl
theorem itV_is (v : Bool) (i : RIt) : ItIs (itV v i) i := by
  cases i with
  | put xs => cases v <;> exact ⟨_, rfl, rfl, by first | exact .inl rfl | exact .inr (.inl ⟨_, rfl⟩)⟩
  | plus a => rfl
  | own a b => rfl
theorem itVs_are (v : Bool) : ∀ is : List RIt, ItsAre (is.map (itV v)) is
  | [] => trivial
  | i :: is => ⟨itV_is v i, itVs_are v is⟩
theorem ruV_is (v w : Bool) (r : RRu) : RuIs (ruV v w r) r := ⟨_, r.its.map (itV v), rfl, by cases w <;> rfl, by cases w <;> rfl, itVs_are v r.its⟩
theorem ruVs_are (v w : Bool) : ∀ rs : List RRu, RusAre (rs.map (ruV v w)) rs
  | [] => trivial
  | r :: rs => ⟨ruV_is v w r, ruVs_are v w rs⟩
@[simp] theorem itV_fz (v : Bool) (i : RIt) : (itV v i).fz = true := by cases i <;> rfl
@[simp] theorem itV_frz (v : Bool) (i : RIt) : (itV v i).frz = itV v i := by cases i <;> rfl
@[simp] theorem ruV_fz (v w : Bool) (i : RRu) : (ruV v w i).fz = true := rfl
@[simp] theorem ruV_frz (v w : Bool) (i : RRu) : (ruV v w i).frz = ruV v w i := rfl
theorem fzL_map {α : Type} {g : α → D} (h : ∀ x, (g x).fz = true) : ∀ xs : List α, fzL (xs.map g) = true
  | [] => rfl
  | x :: xs => by rw [List.map_cons, fzL_cons, h x, fzL_map h xs] <;> rfl
theorem frzL_map {α : Type} {g : α → D} (h : ∀ x, (g x).frz = g x) : ∀ xs : List α, frzL (xs.map g) = xs.map g
  | [] => rfl
  | x :: xs => by rw [List.map_cons, frzL_cons, h x, frzL_map h xs]
theorem Dp.row {n : Nat} {x : D} {ws : List Int} (h : RowIs x ws) (hl : ws.length ≤ 1000000) : Dp (n + 1) x := ⟨h.1, fun xs e => by
  rw [h.items] at e
  cases e
  exact ⟨by rw [List.length_map]; exact hl, fun y hy => by
    obtain ⟨w, _, rfl⟩ := List.mem_map.mp hy
    exact Dp.atom rfl rfl⟩⟩
theorem itV_dp (v : Bool) {i : RIt} (ok : i.ok) {n : Nat} : Dp (n + 2) (itV v i) := by
  refine ⟨by simp, fun xs e => ?_⟩
  cases i with
  | put ws =>
    cases e
    refine ⟨show 2 ≤ 1000000 by decide, all2 (Dp.atom rfl rfl) ?_⟩
    exact Dp.row (ws := ws) ⟨by cases v <;> rfl, by cases v <;> first | exact .inl rfl | exact .inr (.inl ⟨_, rfl⟩)⟩ (by have := ok.2; omega)
  | plus a => cases e; exact ⟨show 2 ≤ 1000000 by decide, all2 (Dp.atom rfl rfl) (Dp.atom rfl rfl)⟩
  | own a b => cases e; exact ⟨show 3 ≤ 1000000 by decide, all3 (Dp.atom rfl rfl) (Dp.atom rfl rfl) (Dp.atom rfl rfl)⟩
theorem ruV_dp (v w : Bool) {r : RRu} (ok : r.ok) {n : Nat} : Dp (n + 4) (ruV v w r) := by
  refine ⟨rfl, fun xs e => ?_⟩
  cases e
  refine ⟨show 4 ≤ 1000000 by decide, all4 (Dp.atom rfl rfl) (Dp.atom (by simp) (by cases r.wd <;> rfl)) ?_ (Dp.atom (by simp) (by cases r.nx <;> rfl))⟩
  have it : (if w = true then D.lst false (r.its.map (itV v)) else .tup (r.its.map (itV v))).items = some (r.its.map (itV v)) := by cases w <;> rfl
  refine ⟨by cases w <;> rfl, fun ys e => ?_⟩
  rw [it] at e
  cases e
  refine ⟨by rw [List.length_map]; have := ok.len; omega, fun y hy => ?_⟩
  obtain ⟨i, hi, rfl⟩ := List.mem_map.mp hy
  exact itV_dp v (ok.its i hi)
theorem itV_sm (v : Bool) {i : RIt} (h : i.ok) : Sm (itV v i) 2 (13 * (spIt i).length - 1) := by
  cases i with
  | put xs =>
    cases v with
    | false => exact RIt.sm (i := .put xs) h
    | true =>
      have e : (iL xs).length = xs.length := List.length_map _
      have h1 : Sm (.lst false (iL xs)) 1 (xs.length * 11) := by
        have := Sm.lst h.1.sm
        rw [e] at this
        exact this
      refine (Sm.tupW (n := 1) (fun d => match d with | .str _ => 10 | _ => xs.length * 11) (all2 ((strw _).mono (by decide) (Nat.le_refl _)) h1)).mono (by decide) ?_
      simp [spIt]
      omega
  | plus a => exact RIt.sm (i := .plus a) h
  | own a b => exact RIt.sm (i := .own a b) h
theorem Sm.lstM {α : Type} {g : α → D} {n : Nat} {f : α → Nat} {xs : List α} (h : ∀ x ∈ xs, Sm (g x) n (f x)) {w : Nat} (hw : (xs.map fun x => f x + 1).sum ≤ w) : Sm (.lst false (xs.map g)) (n + 1) w := by
  obtain ⟨a, b, ps, c1, c2, c3, c4, c5, c6⟩ := smLW h
  refine ⟨rfl, by rw [frz_lst, b], .list ps, ?_, ?_, ?_, ?_, ?_, ?_⟩
  · show (D.py.pyL (xs.map g)).map PyData.list = _
    rw [c1] <;> rfl
  · simp only [PyData.depth]; omega
  · simpa [PyData.showable] using c3
  · simpa [PyData.leavesShort] using c4
  · simp only [PyData.weight]; omega
  · simpa [psame] using c6
theorem ruV_sm (v w : Bool) {r : RRu} (h : r.ok) : Sm (ruV v w r) 4 (13 * (spRu r).length - 1) := by
  have h1 : Sm (if w = true then .lst false (r.its.map (itV v)) else .tup (r.its.map (itV v))) 3 (13 * (spIts r.its).length) := by
    cases w with
    | false => exact Sm.tupM (fun i hi => itV_sm v (h.its i hi)) (Nat.le_of_eq (its_sum _ h.its))
    | true => exact Sm.lstM (fun i hi => itV_sm v (h.its i hi)) (Nat.le_of_eq (its_sum _ h.its))
  have h2 : Sm r.wd.d 0 10 := by
    have := h.wd
    cases e : r.wd with
    | sg a => rw [e] at this; exact Sg.sm this
    | other => exact strw _
    | fin => exact strw _
  have h3 : Sm (optD r.nx) 0 10 := by
    have := h.nx
    cases e : r.nx with
    | none => exact Sm.non.mono (by decide) (by decide)
    | some a => rw [e] at this; exact Sg.sm this.1
  have hl : 3 + (spIts r.its).length ≤ (spRu r).length := by
    have : 1 ≤ (spWd r.wd).length := by cases r.wd <;> simp [spWd]
    simp only [spRu, List.length_cons, List.length_append]
    omega
  have k2 := Sm.tupW (n := 3) (fun d => match d with | .tup _ => 13 * (spIts r.its).length | .lst _ _ => 13 * (spIts r.its).length | _ => 10) (ds := [.int r.st, r.wd.d, if w = true then .lst false (r.its.map (itV v)) else .tup (r.its.map (itV v)), optD r.nx])
    (all4 ((Sg.sm h.st).mono (by decide) (Nat.le_refl _)) (by cases e : r.wd <;> rw [e] at h2 <;> exact h2.mono (by decide) (Nat.le_refl _)) (by cases w <;> exact h1) (by cases e : r.nx <;> rw [e] at h3 <;> exact h3.mono (by decide) (Nat.le_refl _)))
  refine k2.mono (by decide) ?_
  have e1 : ∀ w : RWd, (match w.d with | .tup _ => 13 * (spIts r.its).length | .lst _ _ => 13 * (spIts r.its).length | _ => 10) = 10 := fun w => by cases w <;> rfl
  have e2 : ∀ w : Option Int, (match optD w with | .tup _ => 13 * (spIts r.its).length | .lst _ _ => 13 * (spIts r.its).length | _ => 10) = 10 := fun w => by cases w <;> rfl
  have e3 : (match (if w = true then D.lst false (r.its.map (itV v)) else .tup (r.its.map (itV v))) with | .tup _ => 13 * (spIts r.its).length | .lst _ _ => 13 * (spIts r.its).length | _ => 10) = 13 * (spIts r.its).length := by cases w <;> rfl
  simp only [List.map_cons, List.map_nil, List.sum_cons, List.sum_nil, List.length_cons, List.length_nil, e1, e2, e3]
  omega
theorem ruVs_sm (v w : Bool) {rs : List RRu} (h : ∀ r ∈ rs, r.ok) : Sm (.tup (rs.map (ruV v w))) 5 (13 * (spRus rs).length) ∧ Sm (.lst false (rs.map (ruV v w))) 5 (13 * (spRus rs).length) :=
  ⟨Sm.tupM (fun i hi => ruV_sm v w (h i hi)) (Nat.le_of_eq (rus_sum _ h)), Sm.lstM (fun i hi => ruV_sm v w (h i hi)) (Nat.le_of_eq (rus_sum _ h))⟩
theorem ruVs_dp (v w : Bool) {rs : List RRu} (h : ∀ r ∈ rs, r.ok) (hl : rs.length ≤ 1000) {d : D} (hd : d = .lst false (rs.map (ruV v w)) ∨ d = .tup (rs.map (ruV v w))) : Dp 5 d ∧ d.items = some (rs.map (ruV v w)) := by
  have hi : d.items = some (rs.map (ruV v w)) := by rcases hd with rfl | rfl <;> rfl
  refine ⟨⟨by rcases hd with rfl | rfl <;> rfl, fun xs e => ?_⟩, hi⟩
  rw [hi] at e
  cases e
  refine ⟨by rw [List.length_map]; omega, fun x hx => ?_⟩
  obtain ⟨r, hr, rfl⟩ := List.mem_map.mp hx
  exact ruV_dp v w (h r hr)
end VM

namespace VM
open PySem L2
/-! ### repr tells rules apart -/
def tx (x : PyData) : List Nat := x.shown.cps.toList
theorem cps_app (a b : Str) : (a ++ b).cps.toList = a.cps.toList ++ b.cps.toList := by
  show (a.cps ++ b.cps).toList = _
  simp
/-- the signs of items, commas between -/
def jt : List PyData → List Nat
  | [] => []
  | [x] => tx x
  | x :: y :: r => tx x ++ (44 :: 32 :: jt (y :: r))
def tl (xs : List PyData) : List Nat := if xs.length == 1 then [44, 41] else [41]
theorem join_cps : ∀ xs : List PyData, (Str.join ", " (PyData.shownAll xs)).cps.toList = jt xs
  | [] => by rw [PyData.shownAll_nil] <;> rfl
  | [x] => by rw [PyData.shownAll_cons, PyData.shownAll_nil] <;> rfl
  | x :: y :: r => by
    have ih := join_cps (y :: r)
    rw [PyData.shownAll_cons] at ih
    rw [PyData.shownAll_cons, PyData.shownAll_cons]
    show (PyData.shown x ++ ((", " : String) : Str) ++ Str.join ", " (PyData.shown y :: PyData.shownAll r)).cps.toList = tx x ++ (44 :: 32 :: jt (y :: r))
    rw [cps_app, cps_app, ih]
    have : (((", " : String) : Str)).cps.toList = [44, 32] := by decide +kernel
    rw [this, List.append_assoc]
    rfl
theorem tx_tup (xs : List PyData) : tx (.tuple xs) = 40 :: (jt xs ++ tl xs) := by
  unfold tx
  rw [PyData.shown_tuple, cps_app, cps_app, join_cps]
  have e1 : ((("(" : String) : Str)).cps.toList = [40] := by decide +kernel
  have e2 : ((((if xs.length == 1 then ",)" else ")" : String)) : Str)).cps.toList = tl xs := by
    unfold tl
    split
    · decide +kernel
    · decide +kernel
  rw [e1, e2] <;> rfl
theorem tx_lst (xs : List PyData) : tx (.list xs) = 91 :: (jt xs ++ [93]) := by
  unfold tx
  rw [PyData.shown_list, cps_app, cps_app, join_cps]
  have e1 : ((("[" : String) : Str)).cps.toList = [91] := by decide +kernel
  have e2 : ((("]" : String) : Str)).cps.toList = [93] := by decide +kernel
  rw [e1, e2] <;> rfl
theorem tx_non : tx .none = [78, 111, 110, 101] := by
  unfold tx
  rw [PyData.shown_none]
  decide +kernel
theorem tx_int : ∀ n : Nat, n < 100 → tx (.int (n : Int)) = if n < 10 then [48 + n] else [48 + n / 10, 48 + n % 10] := by
  unfold tx
  simp only [PyData.shown_int]
  decide +kernel
def five : List Str := ["put", "plus", "own", "other", "end"]
theorem tx_str : ∀ x ∈ five, ∃ n, n < 5 ∧ five[n]? = some x ∧ tx (.str x) = ([[39, 112, 117, 116, 39], [39, 112, 108, 117, 115, 39], [39, 111, 119, 110, 39], [39, 111, 116, 104, 101, 114, 39], [39, 101, 110, 100, 39]] : List (List Nat)).getD n [] := by
  intro x hx
  simp only [five, List.mem_cons, List.not_mem_nil, or_false] at hx
  unfold tx
  rw [PyData.shown_str]
  rcases hx with rfl | rfl | rfl | rfl | rfl
  · exact ⟨0, by decide, rfl, by decide +kernel⟩
  · exact ⟨1, by decide, rfl, by decide +kernel⟩
  · exact ⟨2, by decide, rfl, by decide +kernel⟩
  · exact ⟨3, by decide, rfl, by decide +kernel⟩
  · exact ⟨4, by decide, rfl, by decide +kernel⟩
mutual
/-- what rules are made of -/
def rr : PyData → Bool
  | .none => true
  | .int i => decide (0 ≤ i ∧ i < 100)
  | .str x => five.contains x
  | .tuple xs => rrL xs
  | _ => false
def rrL : List PyData → Bool
  | [] => true
  | x :: xs => rr x && rrL xs
end
/-- the first sign tells the kind -/
theorem tx_hd {x : PyData} (h : rr x = true) : ∃ c t, tx x = c :: t ∧ c ≠ 41 ∧ c ≠ 93 ∧ (match x with
    | .none => c = 78
    | .int _ => 48 ≤ c ∧ c ≤ 57
    | .str _ => c = 39
    | _ => c = 40) := by
  cases x with
  | none => exact ⟨78, _, tx_non, by decide, by decide, rfl⟩
  | bool b => cases h
  | int i =>
    have hi : 0 ≤ i ∧ i < 100 := of_decide_eq_true h
    obtain ⟨n, rfl⟩ := Int.eq_ofNat_of_zero_le hi.1
    have e := tx_int n (by omega)
    by_cases c : n < 10
    · rw [if_pos c] at e
      exact ⟨_, _, e, by omega, by omega, by omega, by omega⟩
    · rw [if_neg c] at e
      exact ⟨_, _, e, by omega, by omega, by omega, by omega⟩
  | str x =>
    have hx : x ∈ five := List.contains_iff_mem.mp h
    obtain ⟨n, hn, _, e⟩ := tx_str x hx
    have nn : n = 0 ∨ n = 1 ∨ n = 2 ∨ n = 3 ∨ n = 4 := by omega
    rcases nn with rfl | rfl | rfl | rfl | rfl <;> exact ⟨39, _, e, by decide, by decide, rfl⟩
  | tuple xs => exact ⟨40, _, tx_tup xs, by decide, by decide, rfl⟩
  | list xs => cases h
  | dict xs => cases h
/-- what may stand behind -/
def St (a : List Nat) : Prop := a = [] ∨ ∃ c t, a = c :: t ∧ (c = 44 ∨ c = 41 ∨ c = 93)
/-- the end of a tuple, of a list -/
def En2 (a : List Nat) : Prop := (∃ t, a = 41 :: t) ∨ (∃ t, a = 93 :: t) ∨ ∃ t, a = 44 :: 41 :: t
theorem En2.st {a : List Nat} (h : En2 a) : St a := by
  rcases h with ⟨t, rfl⟩ | ⟨t, rfl⟩ | ⟨t, rfl⟩
  · exact .inr ⟨_, _, rfl, .inr (.inl rfl)⟩
  · exact .inr ⟨_, _, rfl, .inr (.inr rfl)⟩
  · exact .inr ⟨_, _, rfl, .inl rfl⟩
theorem En2.no32 {a t : List Nat} (h : En2 a) : a ≠ 44 :: 32 :: t := by
  rintro rfl
  rcases h with ⟨_, h⟩ | ⟨_, h⟩ | ⟨_, h⟩ <;> cases h
theorem int_inj {n m : Nat} (hn : n < 100) (hm : m < 100) {a b : List Nat} (sa : St a) (sb : St b) (e : tx (.int (n : Int)) ++ a = tx (.int (m : Int)) ++ b) : n = m ∧ a = b := by
  rw [tx_int n hn, tx_int m hm] at e
  have nd : ∀ {u : List Nat} {c : Nat} {t : List Nat}, St u → u = c :: t → 48 ≤ c ∧ c ≤ 57 → False := fun {u c t} s h hc => by
    rcases s with rfl | ⟨c', t', rfl, h2⟩
    · cases h
    · obtain ⟨rfl, _⟩ := List.cons.inj h
      omega
  by_cases c : n < 10
  · by_cases d : m < 10
    · rw [if_pos c, if_pos d] at e
      obtain ⟨e1, e2⟩ := List.cons.inj e
      have e1 : 48 + n = 48 + m := e1
      exact ⟨by omega, e2⟩
    · rw [if_pos c, if_neg d] at e
      obtain ⟨e1, e2⟩ := List.cons.inj e
      exact (nd sa e2 ⟨by omega, by omega⟩).elim
  · by_cases d : m < 10
    · rw [if_neg c, if_pos d] at e
      obtain ⟨e1, e2⟩ := List.cons.inj e
      exact (nd sb e2.symm ⟨by omega, by omega⟩).elim
    · rw [if_neg c, if_neg d] at e
      obtain ⟨e1, e2⟩ := List.cons.inj e
      obtain ⟨e3, e4⟩ := List.cons.inj e2
      have e1 : 48 + n / 10 = 48 + m / 10 := e1
      have e3 : 48 + n % 10 = 48 + m % 10 := e3
      exact ⟨by omega, e4⟩
theorem str_inj {x y : Str} (hx : x ∈ five) (hy : y ∈ five) {a b : List Nat} (e : tx (.str x) ++ a = tx (.str y) ++ b) : x = y ∧ a = b := by
  obtain ⟨n, hn, e1, e2⟩ := tx_str x hx
  obtain ⟨m, hm, e3, e4⟩ := tx_str y hy
  rw [e2, e4] at e
  have nn : n = 0 ∨ n = 1 ∨ n = 2 ∨ n = 3 ∨ n = 4 := by omega
  have mm : m = 0 ∨ m = 1 ∨ m = 2 ∨ m = 3 ∨ m = 4 := by omega
  have key : n = m ∧ a = b := by
    rcases nn with rfl | rfl | rfl | rfl | rfl <;> rcases mm with rfl | rfl | rfl | rfl | rfl <;> simp at e <;> first | exact ⟨rfl, e⟩ | exact e.elim
  obtain ⟨rfl, h⟩ := key
  rw [e1] at e3
  exact ⟨Option.some.inj e3, h⟩
theorem jt_hd {y : PyData} {r : List PyData} (h : rr y = true) {b : List Nat} : ∃ c t, jt (y :: r) ++ b = c :: t ∧ c ≠ 41 ∧ c ≠ 93 := by
  obtain ⟨c, t, e, h1, h2, _⟩ := tx_hd h
  cases r with
  | nil => exact ⟨c, t ++ b, by show tx y ++ b = _; rw [e] <;> rfl, h1, h2⟩
  | cons z r => exact ⟨c, t ++ (44 :: 32 :: jt (z :: r)) ++ b, by show tx y ++ (44 :: 32 :: jt (z :: r)) ++ b = _; rw [e] <;> rfl, h1, h2⟩
mutual
theorem tx_inj : ∀ (x y : PyData) (a b : List Nat), rr x = true → rr y = true → St a → St b → tx x ++ a = tx y ++ b → x = y ∧ a = b
  | .none, y, a, b, hx, hy, sa, sb, e => by
    cases y with
    | none => exact ⟨rfl, List.append_cancel_left e⟩
    | int j =>
      obtain ⟨c, t, e1, _, _, k⟩ := tx_hd hy
      rw [e1, tx_non] at e
      have := (List.cons.inj e).1
      omega
    | str y =>
      obtain ⟨c, t, e1, _, _, k⟩ := tx_hd hy
      rw [e1, tx_non] at e
      have := (List.cons.inj e).1
      omega
    | tuple ys =>
      rw [tx_tup, tx_non] at e
      cases e
    | bool _ => cases hy
    | list _ => cases hy
    | dict _ => cases hy
  | .bool _, _, _, _, hx, _, _, _, _ => by cases hx
  | .list _, _, _, _, hx, _, _, _, _ => by cases hx
  | .dict _, _, _, _, hx, _, _, _, _ => by cases hx
  | .int i, y, a, b, hx, hy, sa, sb, e => by
    obtain ⟨c, t, e1, _, _, k⟩ := tx_hd hx
    have k : 48 ≤ c ∧ c ≤ 57 := k
    cases y with
    | int j =>
      have hi : 0 ≤ i ∧ i < 100 := of_decide_eq_true hx
      have hj : 0 ≤ j ∧ j < 100 := of_decide_eq_true hy
      obtain ⟨n, rfl⟩ := Int.eq_ofNat_of_zero_le hi.1
      obtain ⟨m, rfl⟩ := Int.eq_ofNat_of_zero_le hj.1
      obtain ⟨rfl, h⟩ := int_inj (by omega) (by omega) sa sb e
      exact ⟨rfl, h⟩
    | none =>
      rw [e1, tx_non] at e
      have := (List.cons.inj e).1
      omega
    | str y =>
      obtain ⟨c', t', e1', _, _, k'⟩ := tx_hd hy
      have k' : c' = 39 := k'
      rw [e1, e1'] at e
      have := (List.cons.inj e).1
      omega
    | tuple ys =>
      rw [e1, tx_tup] at e
      have := (List.cons.inj e).1
      omega
    | bool _ => cases hy
    | list _ => cases hy
    | dict _ => cases hy
  | .str x, y, a, b, hx, hy, sa, sb, e => by
    obtain ⟨c, t, e1, _, _, k⟩ := tx_hd hx
    have k : c = 39 := k
    cases y with
    | str y =>
      obtain ⟨rfl, h⟩ := str_inj (List.contains_iff_mem.mp hx) (List.contains_iff_mem.mp hy) e
      exact ⟨rfl, h⟩
    | none =>
      rw [e1, tx_non] at e
      have := (List.cons.inj e).1
      omega
    | int j =>
      obtain ⟨c', t', e1', _, _, k'⟩ := tx_hd hy
      have k' : 48 ≤ c' ∧ c' ≤ 57 := k'
      rw [e1, e1'] at e
      have := (List.cons.inj e).1
      omega
    | tuple ys =>
      rw [e1, tx_tup] at e
      have := (List.cons.inj e).1
      omega
    | bool _ => cases hy
    | list _ => cases hy
    | dict _ => cases hy
  | .tuple xs, y, a, b, hx, hy, sa, sb, e => by
    cases y with
    | tuple ys =>
      have hx : rrL xs = true := hx
      have hy : rrL ys = true := hy
      rw [tx_tup, tx_tup] at e
      have e : jt xs ++ tl xs ++ a = jt ys ++ tl ys ++ b := (List.cons.inj e).2
      rw [List.append_assoc, List.append_assoc] at e
      have en : ∀ (zs : List PyData) (u : List Nat), En2 (tl zs ++ u) := fun zs u => by
        unfold tl
        split
        · exact .inr (.inr ⟨u, rfl⟩)
        · exact .inl ⟨u, rfl⟩
      cases xs with
      | nil =>
        cases ys with
        | nil => exact ⟨rfl, List.append_cancel_left (as := [41]) e⟩
        | cons y ys =>
          obtain ⟨c, t, e1, h1, _⟩ := jt_hd (r := ys) (b := tl (y :: ys) ++ b) (Bool.and_eq_true_iff.mp (show (rr y && rrL ys) = true from hy)).1
          rw [e1] at e
          exact absurd (List.cons.inj (show (41 : Nat) :: a = c :: t from e)).1.symm h1
      | cons x xs =>
        cases ys with
        | nil =>
          obtain ⟨c, t, e1, h1, _⟩ := jt_hd (r := xs) (b := tl (x :: xs) ++ a) (Bool.and_eq_true_iff.mp (show (rr x && rrL xs) = true from hx)).1
          rw [e1] at e
          exact absurd (List.cons.inj (show c :: t = (41 : Nat) :: b from e)).1 h1
        | cons y ys =>
          obtain ⟨h1, h2⟩ := jt_inj (x :: xs) (y :: ys) _ _ (by simp) (by simp) hx hy (en _ _) (en _ _) e
          rw [h1] at h2 ⊢
          exact ⟨rfl, List.append_cancel_left h2⟩
    | none =>
      rw [tx_tup, tx_non] at e
      cases e
    | int j =>
      obtain ⟨c', t', e1', _, _, k'⟩ := tx_hd hy
      have k' : 48 ≤ c' ∧ c' ≤ 57 := k'
      rw [tx_tup, e1'] at e
      have := (List.cons.inj e).1
      omega
    | str y =>
      obtain ⟨c', t', e1', _, _, k'⟩ := tx_hd hy
      have k' : c' = 39 := k'
      rw [tx_tup, e1'] at e
      have := (List.cons.inj e).1
      omega
    | bool _ => cases hy
    | list _ => cases hy
    | dict _ => cases hy
theorem jt_inj : ∀ (xs ys : List PyData) (a b : List Nat), xs ≠ [] → ys ≠ [] → rrL xs = true → rrL ys = true → En2 a → En2 b → jt xs ++ a = jt ys ++ b → xs = ys ∧ a = b
  | [], _, _, _, h, _, _, _, _, _, _ => absurd rfl h
  | x :: xs, [], _, _, _, h, _, _, _, _, _ => absurd rfl h
  | x :: xs, y :: ys, a, b, _, _, hx, hy, sa, sb, e => by
    obtain ⟨hx1, hx2⟩ := Bool.and_eq_true_iff.mp (show (rr x && rrL xs) = true from hx)
    obtain ⟨hy1, hy2⟩ := Bool.and_eq_true_iff.mp (show (rr y && rrL ys) = true from hy)
    have s44 : ∀ t, St (44 :: t) := fun t => .inr ⟨_, _, rfl, .inl rfl⟩
    cases hxs : xs with
    | nil =>
      subst hxs
      cases hys : ys with
      | nil =>
        subst hys
        obtain ⟨rfl, h⟩ := tx_inj x y a b hx1 hy1 sa.st sb.st e
        exact ⟨rfl, h⟩
      | cons z r =>
        subst hys
        have e : tx x ++ a = tx y ++ (44 :: 32 :: jt (z :: r)) ++ b := e
        rw [List.append_assoc] at e
        obtain ⟨_, h⟩ := tx_inj x y a _ hx1 hy1 sa.st (s44 _) e
        exact absurd h sa.no32
    | cons w q =>
      cases hys : ys with
      | nil =>
        subst hys
        subst hxs
        have e : tx x ++ (44 :: 32 :: jt (w :: q)) ++ a = tx y ++ b := e
        rw [List.append_assoc] at e
        obtain ⟨_, h⟩ := tx_inj x y _ b hx1 hy1 (s44 _) sb.st e
        exact absurd h.symm sb.no32
      | cons z r =>
        have e : tx x ++ (44 :: 32 :: jt xs) ++ a = tx y ++ (44 :: 32 :: jt ys) ++ b := by
          subst hxs
          subst hys
          exact e
        rw [List.append_assoc, List.append_assoc] at e
        obtain ⟨h1, h⟩ := tx_inj x y _ _ hx1 hy1 (s44 _) (s44 _) e
        have h : jt xs ++ a = jt ys ++ b := (List.cons.inj (List.cons.inj h).2).2
        obtain ⟨h2, h3⟩ := jt_inj xs ys a b (by rw [hxs]; simp) (by rw [hys]; simp) hx2 hy2 sa sb h
        rw [← hxs, ← hys, h1, h2]
        exact ⟨rfl, h3⟩
end
/-! ### of rules -/
def pyIt : RIt → PyData
  | .put xs => .tuple [.str "put", .tuple (xs.map PyData.int)]
  | .plus a => .tuple [.str "plus", .int a]
  | .own a b => .tuple [.str "own", .int a, .int b]
def pyWd : RWd → PyData
  | .sg a => .int a
  | .other => .str "other"
  | .fin => .str "end"
def pyO : Option Int → PyData
  | none => .none
  | some a => .int a
def pyRu (r : RRu) : PyData := .tuple [.int r.st, pyWd r.wd, .tuple (r.its.map pyIt), pyO r.nx]
theorem map_inj {α β : Type} {f : α → β} (h : ∀ x y, f x = f y → x = y) : ∀ {xs ys : List α}, xs.map f = ys.map f → xs = ys
  | [], [], _ => rfl
  | [], _ :: _, e => by cases e
  | _ :: _, [], e => by cases e
  | x :: xs, y :: ys, e => by
    obtain ⟨e1, e2⟩ := List.cons.inj (show f x :: xs.map f = f y :: ys.map f from e)
    rw [h _ _ e1, map_inj h e2]
theorem pyIt_inj : ∀ x y : RIt, pyIt x = pyIt y → x = y
  | .put xs, .put ys, e => by
    have : xs.map PyData.int = ys.map PyData.int := by simpa [pyIt] using e
    rw [map_inj (fun a b h => by cases h; rfl) this]
  | .plus a, .plus b, e => by cases e; rfl
  | .own a b, .own c d, e => by cases e; rfl
  | .put xs, .plus b, e => by simp [pyIt] at e
  | .put xs, .own _ _, e => by simp [pyIt] at e
  | .plus a, .put ys, e => by simp [pyIt] at e
  | .plus a, .own _ _, e => by simp [pyIt] at e
  | .own a b, .put _, e => by simp [pyIt] at e
  | .own a b, .plus _, e => by simp [pyIt] at e
theorem pyWd_inj : ∀ x y : RWd, pyWd x = pyWd y → x = y
  | .sg a, .sg b, e => by cases e; rfl
  | .other, .other, _ => rfl
  | .fin, .fin, _ => rfl
  | .sg a, .other, e => by cases e
  | .sg a, .fin, e => by cases e
  | .other, .sg _, e => by cases e
  | .fin, .sg _, e => by cases e
  | .other, .fin, e => by
    have : (Str.ofString "other") = Str.ofString "end" := by injection e
    exact absurd this (by decide)
  | .fin, .other, e => by
    have : (Str.ofString "end") = Str.ofString "other" := by injection e
    exact absurd this (by decide)
theorem pyO_inj : ∀ x y : Option Int, pyO x = pyO y → x = y
  | none, none, _ => rfl
  | some a, some b, e => by cases e; rfl
  | none, some _, e => by cases e
  | some _, none, e => by cases e
theorem pyRu_inj (x y : RRu) (e : pyRu x = pyRu y) : x = y := by
  unfold pyRu at e
  simp only [PyData.tuple.injEq, List.cons.injEq, PyData.int.injEq, and_true] at e
  obtain ⟨e1, e2, e3, e4⟩ := e
  obtain ⟨s1, w1, i1, n1⟩ := x
  obtain ⟨s2, w2, i2, n2⟩ := y
  dsimp only at e1 e2 e3 e4
  rw [e1, pyWd_inj _ _ e2, map_inj pyIt_inj e3, pyO_inj _ _ e4]
theorem rr_int {a : Int} (h : Sg a) : rr (.int a) = true := decide_eq_true h
theorem rrL_ints : ∀ {ws : List Int}, Sgs ws → rrL (ws.map PyData.int) = true
  | [], _ => rfl
  | w :: ws, h => by
    show (rr (.int w) && rrL (ws.map PyData.int)) = true
    rw [rr_int (h w List.mem_cons_self), rrL_ints fun x hx => h x (List.mem_cons_of_mem _ hx)] <;> rfl
theorem rr_it {i : RIt} (h : i.ok) : rr (pyIt i) = true := by
  cases i with
  | put xs =>
    show (rr (.str "put") && (rr (.tuple (xs.map PyData.int)) && true)) = true
    have : rr (.tuple (xs.map PyData.int)) = true := rrL_ints h.1
    rw [this] <;> rfl
  | plus a =>
    show (rr (.str "plus") && (rr (.int a) && true)) = true
    rw [rr_int h] <;> rfl
  | own a b =>
    show (rr (.str "own") && (rr (.int a) && (rr (.int b) && true))) = true
    rw [rr_int h.1, rr_int h.2] <;> rfl
theorem rrL_its : ∀ {is : List RIt}, (∀ i ∈ is, i.ok) → rrL (is.map pyIt) = true
  | [], _ => rfl
  | i :: is, h => by
    show (rr (pyIt i) && rrL (is.map pyIt)) = true
    rw [rr_it (h i List.mem_cons_self), rrL_its fun x hx => h x (List.mem_cons_of_mem _ hx)] <;> rfl
theorem rr_ru {r : RRu} (h : r.ok) : rr (pyRu r) = true := by
  show (rr (.int r.st) && (rr (pyWd r.wd) && (rr (.tuple (r.its.map pyIt)) && (rr (pyO r.nx) && true)))) = true
  have e1 : rr (pyWd r.wd) = true := by
    have := h.wd
    cases e : r.wd with
    | sg a => rw [e] at this; exact rr_int this
    | other => rfl
    | fin => rfl
  have e2 : rr (pyO r.nx) = true := by
    have := h.nx
    cases e : r.nx with
    | none => rfl
    | some a => rw [e] at this; exact rr_int this.1
  have e3 : rr (.tuple (r.its.map pyIt)) = true := rrL_its h.its
  rw [rr_int h.st, e1, e2, e3] <;> rfl
theorem rrL_rus : ∀ {rs : List RRu}, (∀ r ∈ rs, r.ok) → rrL (rs.map pyRu) = true
  | [], _ => rfl
  | r :: rs, h => by
    show (rr (pyRu r) && rrL (rs.map pyRu)) = true
    rw [rr_ru (h r List.mem_cons_self), rrL_rus fun x hx => h x (List.mem_cons_of_mem _ hx)] <;> rfl
/-- repr of two lists of rules is the same only if they are -/
theorem shown_rus {rs qs : List RRu} (hr : ∀ r ∈ rs, r.ok) (hq : ∀ r ∈ qs, r.ok) (e : (PyData.list (rs.map pyRu)).shown = (PyData.list (qs.map pyRu)).shown) : rs = qs := by
  have e : tx (.list (rs.map pyRu)) = tx (.list (qs.map pyRu)) := by unfold tx; rw [e]
  rw [tx_lst, tx_lst] at e
  have e := (List.cons.inj e).2
  cases rs with
  | nil =>
    cases qs with
    | nil => rfl
    | cons q qs =>
      obtain ⟨c, t, e1, _, h1⟩ := jt_hd (r := qs.map pyRu) (b := [93]) (rr_ru (hq q List.mem_cons_self))
      have e : [93] = jt (pyRu q :: qs.map pyRu) ++ [93] := e
      rw [e1] at e
      exact absurd (List.cons.inj e).1.symm h1
  | cons r rs =>
    cases qs with
    | nil =>
      obtain ⟨c, t, e1, _, h1⟩ := jt_hd (r := rs.map pyRu) (b := [93]) (rr_ru (hr r List.mem_cons_self))
      have e : jt (pyRu r :: rs.map pyRu) ++ [93] = [93] := e
      rw [e1] at e
      exact absurd (List.cons.inj e).1 h1
    | cons q qs => exact map_inj pyRu_inj (jt_inj _ _ _ _ (by simp) (by simp) (rrL_rus hr) (rrL_rus hq) (.inr (.inl ⟨[], rfl⟩)) (.inr (.inl ⟨[], rfl⟩)) e).1
theorem pyL_map {α : Type} {f : α → D} {g : α → PyData} (h : ∀ x, (f x).py = some (g x)) : ∀ xs : List α, D.py.pyL (xs.map f) = some (xs.map g)
  | [] => rfl
  | x :: xs => by
    show (match (f x).py, D.py.pyL (xs.map f) with | some a, some b => some (a :: b) | _, _ => none) = _
    rw [h x, pyL_map h xs] <;> rfl
theorem py_it (i : RIt) : i.d.py = some (pyIt i) := by
  cases i with
  | put xs =>
    show (match (D.str "put").py, D.py.pyL [.tup (iL xs)] with | some a, some b => some (a :: b) | _, _ => none).map PyData.tuple = _
    have : D.py.pyL [.tup (iL xs)] = some [.tuple (xs.map PyData.int)] := by
      show (match (D.tup (iL xs)).py, D.py.pyL [] with | some a, some b => some (a :: b) | _, _ => none) = _
      have : (D.tup (iL xs)).py = some (.tuple (xs.map PyData.int)) := by
        show (D.py.pyL (xs.map D.int)).map PyData.tuple = _
        rw [pyL_map (fun _ => rfl)] <;> rfl
      rw [this] <;> rfl
    rw [this] <;> rfl
  | plus a => rfl
  | own a b => rfl
theorem py_ru (r : RRu) : r.d.py = some (pyRu r) := by
  have e1 : r.wd.d.py = some (pyWd r.wd) := by cases r.wd <;> rfl
  have e2 : (optD r.nx).py = some (pyO r.nx) := by cases r.nx <;> rfl
  have e3 : (D.tup (r.its.map RIt.d)).py = some (.tuple (r.its.map pyIt)) := by
    show (D.py.pyL (r.its.map RIt.d)).map PyData.tuple = _
    rw [pyL_map py_it] <;> rfl
  show (D.py.pyL [.int r.st, r.wd.d, .tup (r.its.map RIt.d), optD r.nx]).map PyData.tuple = _
  have : D.py.pyL [.int r.st, r.wd.d, .tup (r.its.map RIt.d), optD r.nx] = some [.int r.st, pyWd r.wd, .tuple (r.its.map pyIt), pyO r.nx] := by
    simp only [D.py.pyL, e1, e2, e3]
    rfl
  rw [this] <;> rfl
theorem repr_rus {rs : List RRu} {o : Bool} {y : Str} (h : (D.lst o (rs.map RRu.d)).py.bind prepr = some y) : y = (PyData.list (rs.map pyRu)).shown := by
  have e : (D.lst o (rs.map RRu.d)).py = some (.list (rs.map pyRu)) := by
    show (D.py.pyL (rs.map RRu.d)).map PyData.list = _
    rw [pyL_map py_ru] <;> rfl
  rw [e] at h
  have h : prepr (.list (rs.map pyRu)) = some y := h
  unfold prepr at h
  split at h
  · exact (Option.some.inj h).symm
  · cases h
end VM

namespace K07
open VM PySem L2
abbrev C : Nat → List D → Rr := run P WN 12
abbrev C1 : Nat → List D → Rr := run P WN 11
theorem hI : P 0 = some fnIsInt := rfl
theorem hSg : P 1 = some (fnIsBelow 0 100) := rfl
theorem hRw : P 2 = some (fnIsRow 1) := rfl
theorem hCr : P 3 = some (fnCheckedRow 2 1) := rfl
theorem hCs : P 4 = some (fnChecked 1 2) := rfl
theorem hIa : P 5 = some fnItemAt := rfl
theorem hIs : P 6 = some (fnItemsAt 5) := rfl
theorem hWa : P 7 = some fnWordAt := rfl
theorem hRa : P 8 = some (fnRuleAt 7 6) := rfl
theorem hIi : P 9 = some (fnIsItem 1 2) := rfl
theorem hIr : P 10 = some (fnIsRule 1 9) := rfl
theorem hSi : P 11 = some fnSgItem := rfl
theorem hSr : P 12 = some (fnSgRule 11) := rfl
theorem hBf : P 13 = some (fnBodyFor 4 10 12 3) := rfl
theorem hP : P 15 = some fnPick := rfl
theorem hS : P 16 = some (fnSign 15) := rfl
theorem hR : P 17 = some (fnSigns 16) := rfl
theorem hIt : P 18 = some (fnItem 15 16 17) := rfl
theorem hRu : P 19 = some (fnARule 15 16 18) := rfl
theorem hRs : P 20 = some (fnRules 15 19) := rfl
theorem hSp : P 21 = some fnSpell := rfl
theorem hIn : P 26 = some (fnInit 3 8) := rfl
theorem hEq : P 27 = some fnEqR := rfl
theorem cPick (k : Nat) {T : D} (hT : Tape T) (z : Int) (hz : 0 < z) (hz2 : z < 1073741824) : ∃ r T', 0 ≤ r ∧ r < z ∧ Tape T' ∧ run P WN (k + 1) 15 [T, .int z] = .ret (.int r) [T', .int z] := by
  obtain ⟨r, T', a, b, c, d⟩ := callPick (W := WN) hP hT hz hz2
  exact ⟨r, T', a, b, c, d k⟩
theorem cSign (k : Nat) {T : D} (hT : Tape T) : ∃ r T', Sg r ∧ Tape T' ∧ run P WN (k + 2) 16 [T] = .ret (.int r) [T'] := by
  obtain ⟨r, T', a, b, c, d⟩ := callSign (W := WN) hP hS hT
  exact ⟨r, T', ⟨a, b⟩, c, d k⟩
theorem cSigns (k : Nat) {T : D} (hT : Tape T) {m : Int} (h0 : 0 ≤ m) (h1 : m ≤ 1000000) : ∃ ws T', Sgs ws ∧ (ws.length : Int) = m ∧ Tape T' ∧ run P WN (k + 3) 17 [T, .int m] = .ret (.lst true (iL ws)) [T', .int m] := callSigns (W := WN) hP hS hR hT h0 h1 k
theorem cARule (k : Nat) {T : D} (hT : Tape T) {m : Int} (m0 : 1 ≤ m) (m1 : m ≤ 100) : ∃ (r : RRu) (T' : D), r.ok ∧ r.its.length ≤ 3 ∧ Tape T' ∧ run P WN (k + 5) 19 [T, .int m] = .ret r.d [T', .int m] := callARule (W := WN) hP hS hR hIt hRu hT m0 m1 k
theorem cRules {T : D} (hT : Tape T) : ∃ (rs : List RRu) (T' : D), (∀ r ∈ rs, r.ok ∧ r.its.length ≤ 3) ∧ (rs.length : Int) ≤ 8 ∧ Tape T' ∧ C 20 [T, .int 8] = .ret (.lst true (rs.map RRu.d)) [T', .int 8] := callRules (W := WN) hP hS hR hIt hRu hRs hT (by decide) (by decide) 6
theorem cSpell (k : Nat) {s : Int} {us : List RRu} (h : ∀ r ∈ us, r.ok) (hl : us.length ≤ 1000) : run P WN (k + 1) 21 [.int s, .lst false (us.map RRu.d)] = .ret (.lst true (iL (s :: spRus us))) [.int s, .lst false (us.map RRu.d)] := callSpell (W := WN) hSp h hl k
section
variable {ws : List Int}
theorem rIa (s : Sgs ws) (k p : Nat) : run P WN (k + 1) 5 [.tup (iL ws), .int (p : Nat)] = .ret (itO (rdIt ws p)) [.tup (iL ws), .int (p : Nat)] := by
  rw [run_succ hIa]
  exact itemAt s p
theorem rIs (s : Sgs ws) (k p : Nat) : run P WN (k + 2) 6 [.tup (iL ws), .int (p : Nat)] = .ret (if p < ws.length then itsO (rdIts ws (gw ws p).toNat (p + 1)) else .non) [.tup (iL ws), .int (p : Nat)] := by
  rw [run_succ hIs]
  exact itemsAt s (rIa s k) p
theorem rWa (k p : Nat) : run P WN (k + 1) 7 [.tup (iL ws), .int (p : Nat)] = .ret (wdO (rdWd ws p)) [.tup (iL ws), .int (p : Nat)] := by
  rw [run_succ hWa]
  exact wordAt p
theorem rRa (s : Sgs ws) (k p : Nat) (hp : p < ws.length) : run P WN (k + 3) 8 [.tup (iL ws), .int (p : Nat)] = .ret (ruO (rdRu ws p)) [.tup (iL ws), .int (p : Nat)] := by
  rw [run_succ hRa]
  exact ruleAt (rWa (k + 1)) (rIs s k) p hp
theorem row_of (s : Sgs ws) : (iL ws).all (sgB 100) = true := by
  refine List.all_eq_true.mpr fun d hd => ?_
  obtain ⟨w, hw, rfl⟩ := List.mem_map.mp hd
  exact decide_eq_true (s w hw)
theorem rCr (s : Sgs ws) (hl : ws.length ≤ 90000) (k : Nat) {d : D} (hd : d = .tup (iL ws) ∨ d = .lst false (iL ws)) : run P WN (k + 4) 3 [d] = .ret (.tup (iL ws)) [d] := by
  have fz : ∀ x ∈ iL ws, x.fz = true := fun x hx => by
    obtain ⟨w, _, rfl⟩ := List.mem_map.mp hx
    rfl
  have ln : (iL ws).length ≤ 1000000 := by rw [List.length_map]; omega
  rcases hd with rfl | rfl
  · have h := gCheckedRow (W := WN) hI hSg hRw hCr (.tup (iL ws)) (rw_tup fz ln) k
    rw [if_pos (show rowB (.tup (iL ws)) = true from row_of s)] at h
    exact h
  · have h := gCheckedRow (W := WN) hI hSg hRw hCr (.lst false (iL ws)) (rw_lst fz ln) k
    rw [if_pos (show rowB (.lst false (iL ws)) = true from row_of s)] at h
    exact h
theorem cInit (k : Nat) (s : Sgs ws) (hl : ws.length ≤ 90000) {d : D} (hd : d = .tup (iL ws) ∨ d = .lst false (iL ws)) : run P WN (k + 5) 26 [insO true [] [], d] = .ret .non [rulesO true ws, d] := by
  rw [run_succ hIn]
  exact callInit s hl (hd.imp id fun h => ⟨_, h⟩) (fun p hp => rRa s (k + 1) p hp) (rCr s hl k hd)
theorem rIi (k : Nat) (x : D) (hx : Dp 2 x) : run P WN (k + 4) 9 [x] = .ret (.bl (itB x)) [x] := by
  rw [run_succ hIi]
  exact isItem hx (fun y hy => gIsBelow hI hSg y hy (k + 1)) fun y hy => gIsRow hI hSg hRw y hy k
theorem rIr (k : Nat) (x : D) (hx : Dp 4 x) : run P WN (k + 5) 10 [x] = .ret (.bl (ruB x)) [x] := by
  rw [run_succ hIr]
  exact isRule hx (fun y hy => gIsBelow hI hSg y hy (k + 2)) fun y hy => rIi k y hy
theorem rSr (k : Nat) (x : D) (r : RRu) (hx : Dp 4 x) (h : RuIs x r) (ok : r.ok) : run P WN (k + 2) 12 [x] = .ret (.lst true (iL (spRu r))) [x] := by
  rw [run_succ hSr]
  refine sgRule hx h ok fun y i hy oi => ?_
  rw [run_succ hSi]
  exact sgItem hy oi
/-- a body that is written -/
theorem cBody (k : Nat) {n : Int} (hn : Sg n) {rs : List RRu} (ok : ∀ r ∈ rs, r.ok) (hl : rs.length ≤ 1000) {d : D} (hd : d = .lst false (rs.map RRu.d) ∨ d = .tup (rs.map RRu.d)) : run P WN (k + 6) 13 [.int n, d] = .ret (.tup (iL (n :: spRus rs))) [.int n, d] := by
  have eRV : rs.map (ruV false false) = rs.map RRu.d := by rw [show ruV false false = RRu.d from funext ruV_f]
  obtain ⟨dp, hi⟩ := ruVs_dp false false ok hl (d := d) (by rw [eRV]; exact hd)
  have sg : sgB 100 (.int n) = true := decide_eq_true hn
  rw [run_succ hBf]
  have b := bodyFor (call := run P WN (k + 5)) (W := WN) (cs := 4) (rl := 10) (sr := 12) (c := 3) (c2 := 2) (s := .int n) (d := d) rfl dp (fun xs e => by rw [hi] at e; cases e; rw [List.length_map]; exact hl) (gChecked hI hSg hCs (.int n) rfl (k + 2)) (fun x hx => rIr k x hx) (fun x r hx h o => rSr (k + 3) x r hx h o)
  obtain ⟨rs', k1, k2, k3⟩ := b.2.2.2 n _ rfl sg hi (noBad 0 (ruVs_are false false rs) ok)
  rw [← (ruVs_are false false rs).uniq k2] at k3
  exact k3
end
/-! ### what begins with no rule -/
def NR (ts : List Int) : Prop := ts = [] ∨ ∀ (ws : List Int) (p : Nat), Sgs ws → ws.drop p = ts → rdRu ws p = none
theorem lt_of_drop {ws ts : List Int} {p : Nat} (h : ws.drop p = ts) (n : ts ≠ []) : p < ws.length := by
  by_cases c : p < ws.length
  · exact c
  · exact absurd (h.symm.trans (List.drop_of_length_le (by omega))) n
theorem nr_word (a b : Int) (ts : List Int) (hb : 3 ≤ b) : NR (a :: b :: ts) := by
  refine .inr fun ws p s h => ?_
  cases e : rdRu ws p with
  | none => rfl
  | some z =>
    obtain ⟨r, q⟩ := z
    obtain ⟨_, h2, _, _⟩ := rdRu_spec s (lt_of_drop h (by simp)) e
    rw [h] at h2
    have h3 : a :: b :: ts = r.st :: (spWd r.wd ++ (r.its.length : Int) :: (spIts r.its ++ spOp r.nx) ++ ws.drop q) := h2
    have h4 := (List.cons.inj h3).2
    cases w : r.wd with
    | sg x =>
      rw [w] at h4
      have := (List.cons.inj (show b :: ts = 0 :: _ from h4)).1
      omega
    | other =>
      rw [w] at h4
      have := (List.cons.inj (show b :: ts = 1 :: _ from h4)).1
      omega
    | fin =>
      rw [w] at h4
      have := (List.cons.inj (show b :: ts = 2 :: _ from h4)).1
      omega
theorem nr_cut {r : RRu} (ok : r.ok) {t u : List Int} (h : spRu r = t ++ u) (hu : u ≠ []) : NR t := by
  by_cases ht : t = []
  · exact .inl ht
  refine .inr fun ws p s hd => ?_
  cases e : rdRu ws p with
  | none => rfl
  | some z =>
    obtain ⟨r', q⟩ := z
    obtain ⟨ok', h2, _, _⟩ := rdRu_spec s (lt_of_drop hd ht) e
    rw [hd] at h2
    have h3 : spRu r = spRu r' ++ (ws.drop q ++ u) := by rw [h, h2, List.append_assoc]
    have e1 := rdRu_of (ws := spRu r) (t := []) (p := 0) ok (by simp)
    have e2 := rdRu_of (ws := spRu r) (t := ws.drop q ++ u) (p := 0) ok' h3
    rw [e1] at e2
    have e3 := (Prod.mk.inj (Option.some.inj e2)).1
    have h4 := congrArg List.length h3
    rw [e3, List.length_append, List.length_append] at h4
    have : u.length = 0 := by omega
    exact absurd (List.eq_nil_of_length_eq_zero this) hu
/-! ### slices -/
theorem cut_lo {xs : List D} {a : Nat} {z : Int} (e : z = (a : Int)) : cutD xs (some z) none = xs.drop a := by
  subst e
  unfold cutD
  rw [HT.sIx_nat, HT.sIx_none]
  by_cases h : a ≤ xs.length
  · rw [Nat.min_eq_left h, List.take_of_length_le (by rw [List.length_drop]; omega)]
  · rw [Nat.min_eq_right (by omega), List.drop_of_length_le (by omega), List.drop_of_length_le (by omega)]
    simp
theorem cut_hi {xs : List D} {a : Nat} {z : Int} (e : z = (a : Int)) : cutD xs none (some z) = xs.take a := by
  subst e
  unfold cutD
  rw [HT.sIx_nat, HT.sIx_none]
  rw [List.drop_zero, Nat.sub_zero]
  by_cases h : a ≤ xs.length
  · rw [Nat.min_eq_left h]
  · rw [Nat.min_eq_right (by omega), List.take_of_length_le (Nat.le_refl _), List.take_of_length_le (by omega)]
/-! ### a tail -/
theorem cTail {T : D} (hT : Tape T) : ∃ ts T', Sgs ts ∧ ts.length ≤ 1000 ∧ NR ts ∧ Tape T' ∧ C 22 [T] = .ret (.tup (iL ts)) [T'] := by
  rw [show C = run P WN (11 + 1) from rfl, run_succ (fn := ⟨1, 3, b22⟩) rfl]
  obtain ⟨k, T1, k0, k1, h1, e1⟩ := cPick 10 hT 3 (by decide) (by decide)
  have t0 := (tape_own hT).1
  have t1 := (tape_own h1).1
  have z2 : (2 : Nat) ≤ sizeLine := by rw [sizeLine_eq]; decide
  have z1 : (1 : Nat) ≤ sizeLine := by rw [sizeLine_eq]; decide
  by_cases c0 : k = 0
  · refine ⟨[], T1, .nil, by simp, .inl rfl, h1, ?_⟩
    simp [b22, b22_0, b22_1, b22_2, b22_3, b22_4, runFn, exs, ex, ev, evs, evA, back, sv, svs, Tg.bind, ixP, fins, B.asg, S.asg, Tg.asg, deq_int, e1, t0, c0, iL]
  · by_cases c1 : k = 1
    · obtain ⟨a, T2, a0, h2, e2⟩ := cSign 9 h1
      obtain ⟨b, T3, b0, b1, h3, e3⟩ := cPick 10 h2 97 (by decide) (by decide)
      obtain ⟨n, T4, n0, n1, h4, e4⟩ := cPick 10 h3 4 (by decide) (by decide)
      obtain ⟨ws, T5, hw, hl, h5, e5⟩ := cSigns 8 h4 (m := n) n0 (by omega)
      have t2 := (tape_own h2).1
      have t3 := (tape_own h3).1
      have t4 := (tape_own h4).1
      refine ⟨a :: (3 + b) :: ws, T5, .cons a0 (.cons ⟨by omega, by omega⟩ hw), by simp only [List.length_cons]; omega, nr_word a (3 + b) ws (by omega), h5, ?_⟩
      have lw : (iL ws).length = ws.length := List.length_map _
      have fw : fzL (iL ws) = true := fzL_ints
      have ls : 2 + (iL ws).length ≤ sizeLine := by rw [lw, sizeLine_eq]; omega
      show _ = Rr.ret (.tup (.int a :: .int (3 + b) :: iL ws)) [T5]
      generalize iL ws = L at e5 fw ls ⊢
      simp [b22, b22_0, b22_1, b22_2, b22_3, b22_4, runFn, exs, ex, ev, evs, evA, back, sv, svs, Tg.bind, ixP, fins, B.asg, S.asg, Tg.asg, deq_int, e1, e2, e3, e4, e5, t0, t1, t2, t3, t4, c1, fw, ls, z2]
    · obtain ⟨r, T2, ok, l3, h2, e2⟩ := cARule 6 h1 (m := 5) (by decide) (by decide)
      have t2 := (tape_own h2).1
      have sp := cSpell 10 (s := 0) (us := [r]) (by simpa using ok) (by simp)
      have sp : C1 21 [.int 0, .lst false [r.d]] = .ret (.lst true (iL (0 :: spRu r))) [.int 0, .lst false [r.d]] := by
        have e : spRus [r] = spRu r := by simp [spRus]
        rw [e] at sp
        exact sp
      have ln := spRu_len ok 3 l3
      have l0 : 0 < (spRu r).length := by simp [spRu]
      obtain ⟨q, T3, q0, q1, h3, e3⟩ := cPick 10 h2 ((spRu r).length : Int) (by omega) (by omega)
      obtain ⟨n, rfl⟩ := Int.eq_ofNat_of_zero_le q0
      refine ⟨(spRu r).take n, T3, fun w hw => spRu_sgs ok w (List.mem_of_mem_take hw), by rw [List.length_take]; omega, nr_cut ok (List.take_append_drop n (spRu r)).symm (fun z => by have := congrArg List.length z; rw [List.length_drop] at this; simp at this; omega), h3, ?_⟩
      have c1' : cutD (iL (0 :: spRu r)) (some 1) none = iL (spRu r) := by
        rw [cut_lo (a := 1) (z := 1) rfl] <;> rfl
      have c2' : cutD (iL (spRu r)) none (some (n : Int)) = iL ((spRu r).take n) := by
        rw [cut_hi (a := n) rfl]
        exact (List.map_take).symm
      have fL : fzL (iL (spRu r)) = true := fzL_ints
      have fM : fzL (iL (0 :: spRu r)) = true := fzL_ints
      have lL : ((iL (spRu r)).length : Int) = ((spRu r).length : Int) := by rw [List.length_map]
      rw [← lL] at e3
      have rf : r.d.frz = r.d := rfl
      generalize iL (0 :: spRu r) = M at sp c1' fM
      generalize iL (spRu r) = L at c1' c2' fL e3
      generalize iL ((spRu r).take n) = L2 at c2' ⊢
      have rfz : r.d.fz = true := rfl
      generalize r.d = rd at e2 sp rf rfz
      generalize (n : Int) = z at e3 c2'
      simp [b22, b22_0, b22_1, b22_2, b22_3, b22_4, runFn, exs, ex, ev, evs, evA, back, sv, svs, Tg.bind, ixP, fins, B.asg, S.asg, Tg.asg, deq_int, e1, e2, e3, sp, t0, t1, t2, c0, c1, c1', c2', fL, fM, rf, rfz, z1]
/-! ### one rule put in, taken out, two turned about -/
theorem mem_app3 {α : Type} {p : α → Prop} {a b c : List α} (h1 : ∀ x ∈ a, p x) (h2 : ∀ x ∈ b, p x) (h3 : ∀ x ∈ c, p x) : ∀ x ∈ a ++ b ++ c, p x := fun x hx => by
  rcases List.mem_append.mp hx with hx | hx
  · rcases List.mem_append.mp hx with hx | hx
    · exact h1 x hx
    · exact h2 x hx
  · exact h3 x hx
theorem cTurned {T : D} (hT : Tape T) {rs : List RRu} (ok : ∀ r ∈ rs, r.ok ∧ r.its.length ≤ 3) (lr : rs.length ≤ 20) : ∃ (rs' : List RRu) (T' : D), (∀ r ∈ rs', r.ok ∧ r.its.length ≤ 3) ∧ rs'.length ≤ rs.length + 1 ∧ Tape T' ∧ C 23 [T, .lst false (rs.map RRu.d)] = .ret (.lst true (rs'.map RRu.d)) [T', .lst false (rs.map RRu.d)] := by
  rw [show C = run P WN (11 + 1) from rfl, run_succ (fn := ⟨2, 4, b23⟩) rfl]
  obtain ⟨k, T1, k0, k1, h1, e1⟩ := cPick 10 hT 3 (by decide) (by decide)
  obtain ⟨a, T2, a0, a1, h2, e2⟩ := cPick 10 h1 ((rs.length : Int) + 1) (by omega) (by omega)
  obtain ⟨n, rfl⟩ := Int.eq_ofNat_of_zero_le a0
  obtain ⟨r, T3, or_, l3, h3, e3⟩ := cARule 6 h2 (m := 4) (by decide) (by decide)
  have t0 := (tape_own hT).1
  have t1 := (tape_own h1).1
  have t2 := (tape_own h2).1
  have t3 := (tape_own h3).1
  have z1 : (1 : Nat) ≤ sizeLine := by rw [sizeLine_eq]; decide
  have z2 : (2 : Nat) ≤ sizeLine := by rw [sizeLine_eq]; decide
  have lR : ((rs.map RRu.d).length : Int) = (rs.length : Int) := by rw [List.length_map]
  have tk : ∀ m, (rs.map RRu.d).take m = (rs.take m).map RRu.d := fun m => (List.map_take).symm
  have dr : ∀ m, (rs.map RRu.d).drop m = (rs.drop m).map RRu.d := fun m => (List.map_drop).symm
  have cH : cutD (rs.map RRu.d) none (some (n : Int)) = (rs.take n).map RRu.d := by rw [cut_hi (a := n) rfl, tk]
  have cD0 : cutD (rs.map RRu.d) (some (n : Int)) none = (rs.drop n).map RRu.d := by rw [cut_lo (a := n) rfl, dr]
  have cD1 : cutD (rs.map RRu.d) (some ((n : Int) + 1)) none = (rs.drop (n + 1)).map RRu.d := by rw [cut_lo (a := n + 1) (by omega), dr]
  have cD2 : cutD (rs.map RRu.d) (some ((n : Int) + 2)) none = (rs.drop (n + 2)).map RRu.d := by rw [cut_lo (a := n + 2) (by omega), dr]
  have okt : ∀ m, ∀ r ∈ rs.take m, r.ok ∧ r.its.length ≤ 3 := fun m r hr => ok r (List.mem_of_mem_take hr)
  have okd : ∀ m, ∀ r ∈ rs.drop m, r.ok ∧ r.its.length ≤ 3 := fun m r hr => ok r (List.mem_of_mem_drop hr)
  have fH : fzL ((rs.take n).map RRu.d) = true := fzL_rus _
  have fD0 : fzL ((rs.drop n).map RRu.d) = true := fzL_rus _
  have fD1 : fzL ((rs.drop (n + 1)).map RRu.d) = true := fzL_rus _
  have fD2 : fzL ((rs.drop (n + 2)).map RRu.d) = true := fzL_rus _
  have fR : fzL (rs.map RRu.d) = true := fzL_rus _
  have big : 100 ≤ sizeLine := by rw [sizeLine_eq]; decide
  have lH : ((rs.take n).map RRu.d).length ≤ 20 := by rw [List.length_map, List.length_take]; omega
  have lD0 : ((rs.drop n).map RRu.d).length ≤ 20 := by rw [List.length_map, List.length_drop]; omega
  have lD1 : ((rs.drop (n + 1)).map RRu.d).length ≤ 20 := by rw [List.length_map, List.length_drop]; omega
  have lD2 : ((rs.drop (n + 2)).map RRu.d).length ≤ 20 := by rw [List.length_map, List.length_drop]; omega
  have e2 : run P WN (10 + 1) 15 [T1, .int (((rs.map RRu.d).length : Int) + 1)] = .ret (.int (n : Int)) [T2, .int (((rs.map RRu.d).length : Int) + 1)] := by rw [lR]; exact e2
  have rfz : r.d.fz = true := rfl
  have rfr : r.d.frz = r.d := rfl
  by_cases c0 : k = 0
  · refine ⟨rs.take n ++ [r] ++ rs.drop n, T3, mem_app3 (okt n) (fun x hx => by rw [List.mem_singleton.mp hx]; exact ⟨or_, l3⟩) (okd n), by simp only [List.length_append, List.length_take, List.length_drop, List.length_cons, List.length_nil]; omega, h3, ?_⟩
    rw [List.map_append, List.map_append]
    show _ = Rr.ret (.lst true ((rs.take n).map RRu.d ++ [r.d] ++ (rs.drop n).map RRu.d)) _
    generalize (rs.take n).map RRu.d = H at *
    generalize (rs.drop n).map RRu.d = Dn at *
    generalize rs.map RRu.d = R at *
    generalize r.d = rd at *
    generalize (n : Int) = z at *
    have q1 : H.length + 1 ≤ sizeLine := by omega
    have q2 : H.length + 1 + Dn.length ≤ sizeLine := by omega
    have q3 : H.length + (Dn.length + 1) ≤ sizeLine := by omega
    simp [b23, b23_0, b23_1, b23_2, b23_3, b23_4, runFn, exs, ex, ev, evs, evA, back, sv, svs, Tg.bind, ixP, fins, B.asg, S.asg, Tg.asg, deq_int, e1, e2, e3, t0, t1, t2, c0, cH, cD0, fH, fD0, fR, rfz, rfr, z1, q1, q2, q3]
  · by_cases c1 : k = 1 ∨ (rs.length : Int) ≤ (n : Int) + 1
    · refine ⟨rs.take n ++ rs.drop (n + 1), T2, fun x hx => (List.mem_append.mp hx).elim (okt n x) (okd (n + 1) x), by simp only [List.length_append, List.length_take, List.length_drop]; omega, h2, ?_⟩
      rw [List.map_append]
      rw [← lR] at c1
      generalize (rs.take n).map RRu.d = H at *
      generalize (rs.drop (n + 1)).map RRu.d = Dn at *
      generalize rs.map RRu.d = R at *
      generalize (n : Int) = z at *
      have q2 : H.length + Dn.length ≤ sizeLine := by omega
      have c2 : (k == 1) = true ∨ (R.length : Int) ≤ z + 1 := by simpa using c1
      by_cases c3 : k = 1
      · simp [b23, b23_0, b23_1, b23_2, b23_3, b23_4, runFn, exs, ex, ev, evs, evA, back, sv, svs, Tg.bind, ixP, fins, B.asg, S.asg, Tg.asg, deq_int, e1, e2, t0, t1, t2, c0, c3, cH, cD1, fH, fD1, fR, q2]
      · have c4 : (R.length : Int) ≤ z + 1 := c1.resolve_left c3
        simp [b23, b23_0, b23_1, b23_2, b23_3, b23_4, runFn, exs, ex, ev, evs, evA, back, sv, svs, Tg.bind, ixP, fins, B.asg, S.asg, Tg.asg, deq_int, e1, e2, t0, t1, t2, c0, c3, c4, cH, cD1, fH, fD1, fR, q2]
    · have c3 : ¬ k = 1 := fun h => c1 (.inl h)
      have c4 : ¬ (rs.length : Int) ≤ (n : Int) + 1 := fun h => c1 (.inr h)
      have hn : n + 1 < rs.length := by omega
      have i1 : atI (rs.map RRu.d) ((n : Int) + 1) = some (rs[n + 1].d) := by
        rw [show (n : Int) + 1 = ((n + 1 : Nat) : Int) by omega, VM.atI_nat]
        simp [hn]
      have i0 : atI (rs.map RRu.d) (n : Int) = some ((rs[n]'(by omega)).d) := by
        rw [VM.atI_nat]
        simp [show n < rs.length by omega]
      refine ⟨rs.take n ++ [rs[n + 1], rs[n]'(by omega)] ++ rs.drop (n + 2), T2, mem_app3 (okt n) (fun x hx => by
        simp only [List.mem_cons, List.not_mem_nil, or_false] at hx
        rcases hx with rfl | rfl
        · exact ok _ (List.getElem_mem _)
        · exact ok _ (List.getElem_mem _)) (okd (n + 2)), by simp only [List.length_append, List.length_take, List.length_drop, List.length_cons, List.length_nil]; omega, h2, ?_⟩
      rw [List.map_append, List.map_append]
      show _ = Rr.ret (.lst true ((rs.take n).map RRu.d ++ [rs[n + 1].d, (rs[n]'(by omega)).d] ++ (rs.drop (n + 2)).map RRu.d)) _
      rw [← lR] at c4
      have f0 : (rs[n]'(by omega)).d.fz = true := rfl
      have f1 : rs[n + 1].d.fz = true := rfl
      have g0 : (rs[n]'(by omega)).d.topfz = (rs[n]'(by omega)).d := rfl
      have g1 : rs[n + 1].d.topfz = rs[n + 1].d := rfl
      have g2 : (rs[n]'(by omega)).d.frz = (rs[n]'(by omega)).d := rfl
      have g3 : rs[n + 1].d.frz = rs[n + 1].d := rfl
      generalize (rs[n]'(by omega)).d = x0 at *
      generalize rs[n + 1].d = x1 at *
      generalize (rs.take n).map RRu.d = H at *
      generalize (rs.drop (n + 2)).map RRu.d = Dn at *
      generalize rs.map RRu.d = R at *
      generalize (n : Int) = z at *
      have q1 : H.length + 2 ≤ sizeLine := by omega
      have q2 : H.length + 2 + Dn.length ≤ sizeLine := by omega
      have q3 : H.length + (Dn.length + 2) ≤ sizeLine := by omega
      have q4 : H.length + (Dn.length + 1 + 1) ≤ sizeLine := by omega
      simp [b23, b23_0, b23_1, b23_2, b23_3, b23_4, runFn, exs, ex, ev, evs, evA, back, sv, svs, Tg.bind, ixP, fins, B.asg, S.asg, Tg.asg, deq_int, e1, e2, t0, t1, t2, c0, c3, c4, cH, cD2, fH, fD2, fR, i0, i1, f0, f1, z2, q1, q2, q3, q4]
/-! ### what is written is read, and written again -/
theorem gw_hd (a : Int) (ws : List Int) : gw (a :: ws) 0 = a := rfl
theorem rules_eq {st : Int} (st0 : Sg st) {rs : List RRu} (ok : ∀ r ∈ rs, r.ok) {ts : List Int} (s : Sgs ts) (nr : NR ts) (o : Bool) : rulesO o (st :: (spRus rs ++ ts)) = insO o ["body", "start", "rules", "tail"] [.tup (iL (st :: (spRus rs ++ ts))), .int st, .tup (rs.map RRu.d), .tup (iL ts)] := by
  have sA : Sgs (st :: (spRus rs ++ ts)) := .cons st0 ((spRus_sgs ok).app s)
  have ed : (st :: (spRus rs ++ ts)).drop (1 + (spRus rs).length) = ts := by
    rw [Nat.add_comm]
    show (spRus rs ++ ts).drop (spRus rs).length = ts
    rw [List.drop_left]
  have ra := rdAll_of (st := st) (t := ts) ok (nr.imp id fun h => h _ _ sA ed)
  unfold rulesO
  rw [ra, ed] <;> rfl
theorem fl_body {x : D} {ds : List D} : look "body" ["body", "start", "rules", "tail"] (x :: ds) = some x := look_hd
theorem fl_start {x y : D} {ds : List D} : look "start" ["body", "start", "rules", "tail"] (x :: y :: ds) = some y := rfl
theorem fl_rules {x y z : D} {ds : List D} : look "rules" ["body", "start", "rules", "tail"] (x :: y :: z :: ds) = some z := rfl
theorem fl_tail {x y z u : D} {ds : List D} : look "tail" ["body", "start", "rules", "tail"] (x :: y :: z :: u :: ds) = some u := rfl
theorem cRW {st : Int} (st0 : Sg st) {rs : List RRu} (ok : ∀ r ∈ rs, r.ok) (lr : rs.length ≤ 20) (tot : (spRus rs).length ≤ 7000) {ts : List Int} (s : Sgs ts) (lt : ts.length ≤ 1000) (nr : NR ts) : C 24 [.int st, .lst false (rs.map RRu.d), .tup (iL ts)] = .ret (.bl true) [.int st, .lst false (rs.map RRu.d), .tup (iL ts)] := by
  rw [show C = run P WN (11 + 1) from rfl, run_succ (fn := ⟨3, 5, b24⟩) rfl]
  have sA : Sgs (st :: (spRus rs ++ ts)) := .cons st0 ((spRus_sgs ok).app s)
  have b1 := cBody 5 st0 ok (by omega) (.inl rfl)
  have b2 := cBody 5 st0 ok (by omega) (.inr rfl)
  have ci := cInit 6 sA (by simp only [List.length_cons, List.length_append]; omega) (.inl rfl)
  rw [rules_eq st0 ok s nr] at ci
  have eA : iL (st :: spRus rs) ++ iL ts = iL (st :: (spRus rs ++ ts)) := by rw [iL_app] <;> rfl
  have ln : (iL (st :: spRus rs)).length + (iL ts).length ≤ sizeLine := by
    rw [sizeLine_eq]
    simp only [iL, List.length_map, List.length_cons]
    omega
  have dL : deq (.tup (iL (st :: spRus rs))) (.tup (iL (st :: spRus rs))) = some true := by rw [deq_tup, decide_eq_true rfl]
  have dA : deq (.tup (iL (st :: (spRus rs ++ ts)))) (.tup (iL (st :: (spRus rs ++ ts)))) = some true := by rw [deq_tup, decide_eq_true rfl]
  have dT : deq (.tup (iL ts)) (.tup (iL ts)) = some true := by rw [deq_tup, decide_eq_true rfl]
  have dR : deq (.tup (rs.map RRu.d)) (.tup (rs.map RRu.d)) = some true := Sm.deqT (rus_all ok) (by decide)
  have fR : fzL (rs.map RRu.d) = true := fzL_rus _
  have fzF : ∀ {x y z u : D}, (insO true ["body", "start", "rules", "tail"] [.tup [x], y, z, u]).fz = false := fun {x y z u} => rfl
  generalize iL (st :: (spRus rs ++ ts)) = A at *
  generalize iL (st :: spRus rs) = L at *
  generalize iL ts = TS at *
  generalize rs.map RRu.d = R at *
  have key : exs C1 WN none b24 [some (.int st), some (.lst false R), some (.tup TS), none, none] = .rt (.bl true) [some (.int st), some (.lst false R), some (.tup TS), some (.tup L), some (insO false ["body", "start", "rules", "tail"] [.tup A, .int st, .tup R, .tup TS])] := by
    refine exs_step (E1 := [some (.int st), some (.lst false R), some (.tup TS), some (.tup L), none]) (by simp [b24_0, runFn, exs, ex, ev, evs, evA, back, sv, svs, Tg.bind, ixP, fins, B.asg, S.asg, Tg.asg, deq_int, b1]) ?_
    refine exs_step (E1 := [some (.int st), some (.lst false R), some (.tup TS), some (.tup L), some (insO false ["body", "start", "rules", "tail"] [.tup A, .int st, .tup R, .tup TS])]) (by simp [b24_1, runFn, exs, ex, ev, evs, evA, back, sv, svs, Tg.bind, ixP, fins, B.asg, S.asg, Tg.asg, deq_int, eA, ln, ci] <;> rfl) ?_
    refine exs_step (E1 := [some (.int st), some (.lst false R), some (.tup TS), some (.tup L), some (insO false ["body", "start", "rules", "tail"] [.tup A, .int st, .tup R, .tup TS])]) (by simp [b24_2, runFn, exs, ex, ev, evs, evA, back, sv, svs, Tg.bind, ixP, fins, B.asg, S.asg, Tg.asg, deq_int, eA, ln, fl_body, fl_start, fl_rules, fl_tail, dL, dA, dT, dR, fR]) ?_
    refine exs_ret ?_
    simp [b24_3, runFn, exs, ex, ev, evs, evA, back, sv, svs, Tg.bind, ixP, fins, B.asg, S.asg, Tg.asg, deq_int, fl_start, fl_rules, b2, dL]
  exact runFn_rt (E1 := [some (.int st), some (.lst false R), some (.tup TS), some (.tup L), some (insO false ["body", "start", "rules", "tail"] [.tup A, .int st, .tup R, .tup TS])]) rfl (show 3 ≤ 5 by decide) key (by
    have n0 : (0 : Nat) ∉ b24.asg := by decide
    have n1 : (1 : Nat) ∉ b24.asg := by decide
    have n2 : (2 : Nat) ∉ b24.asg := by decide
    simp [fins, n0, n1, n2])
/-! ### == and != of Rules -/
theorem bop_isC {cs : List Str} {c : Str} {a : D} : bop (.isC cs c) [a] = a.isIns cs c := by cases a <;> rfl
theorem frz_rules (ws : List Int) : (rulesO true ws).frz = rulesO false ws := rfl
theorem isFz_rules (ws : List Int) : (rulesO false ws).isFz "Rules" = true := by
  show (("Rules" : Str) == ("Rules" : Str)) = true
  decide
theorem cEq (k : Nat) (u v : List Int) : run P WN (k + 1) 27 [rulesO false u, rulesO false v] = .ret (.bl (decide (u = v))) [rulesO false u, rulesO false v] := by
  rw [run_succ hEq]
  have e := deq_tup u v
  have e : deq (.tup (iL u)) (.tup (iL v)) = some (decide (u = v)) := e
  unfold rulesO
  generalize D.tup (iL u) = x at e ⊢
  generalize D.tup (iL v) = y at e ⊢
  generalize decide (u = v) = z at e ⊢
  generalize D.tup ((rdAll u).1.map RRu.d) = r1
  generalize D.tup ((rdAll v).1.map RRu.d) = r2
  generalize (iL (u.drop (rdAll u).2)) = t1
  generalize (iL (v.drop (rdAll v).2)) = t2
  simp [fnEqR, runFn, exs, ex, ev, evs, evA, back, sv, svs, Tg.bind, ixP, fins, B.asg, S.asg, Tg.asg, deq_int, look_hd, e, bop_isC, D.isIns]
theorem cEqN (k : Nat) (u : List Int) {d : D} (hd : d.isTI = true) : run P WN (k + 1) 27 [rulesO false u, d] = .ret (.bl false) [rulesO false u, d] := by
  rw [run_succ hEq]
  have e : d.isIns ["Rules"] "Rules" = some (.bl false) := by cases d <;> first | rfl | cases hd
  have z : d.fz = true := by cases d <;> first | rfl | cases hd
  have zr : (rulesO false u).fz = true := rfl
  generalize rulesO false u = x at zr ⊢
  simp [fnEqR, runFn, exs, ex, ev, evs, evA, back, sv, svs, Tg.bind, ixP, fins, B.asg, S.asg, Tg.asg, deq_int, e, bop_isC, z]
section
variable {call : Nat → List D → Rr} {W : Nat} {E : En} {a b : M} {x y p q : D} {z : Bool}
theorem cmpI_ok (ha : ev call none a E = .ok x E) (hb : ev call none b E = .ok y E) (fx : x.isFz "Rules" = true) (fy : y.isFz "Rules" = true) (hc : call 27 [x, y] = .ret (.bl z) [p, q]) : ev call none (.cmpI "Rules" 27 a b) E = .ok (.bl z) E := by
  rw [ev_cmpI, ha]
  show (ev call none b E).bind _ = _
  rw [hb]
  show (if x.isFz "Rules" = true ∧ y.isFz "Rules" = true then _ else R.bad) = _
  rw [if_pos ⟨fx, fy⟩, hc]
theorem cmpX0_ok (ha : ev call none a E = .ok x E) (hb : ev call none b E = .ok y E) (fx : x.isFz "Rules" = true) (fy : y.isFz "Rules" = true) (hc : call 27 [x, y] = .ret (.bl z) [p, q]) : ev call none (.cmpX 0 "Rules" 27 a b) E = .ok (.bl (!z)) E := by
  rw [ev_cmpX, ha]
  show (ev call none b E).bind _ = _
  rw [hb]
  show (if x.isFz "Rules" = true ∧ y.isFz "Rules" = true then _ else R.bad) = _
  rw [if_pos ⟨fx, fy⟩, hc]
theorem cmpX1_ok (ha : ev call none a E = .ok x E) (hb : ev call none b E = .ok y E) (fx : x.isFz "Rules" = true) (fy : y.isTI = true) (hc : call 27 [x, y] = .ret (.bl z) [p, q]) : ev call none (.cmpX 1 "Rules" 27 a b) E = .ok (.bl z) E := by
  rw [ev_cmpX, ha]
  show (ev call none b E).bind _ = _
  rw [hb]
  show (if x.isFz "Rules" = true ∧ y.isTI = true then _ else R.bad) = _
  rw [if_pos ⟨fx, fy⟩, hc]
theorem cmpX2_ok (ha : ev call none a E = .ok x E) (hb : ev call none b E = .ok y E) (fx : x.isTu = true) (fy : y.isFz "Rules" = true) (hc : call 27 [y, x] = .ret (.bl z) [p, q]) : ev call none (.cmpX 2 "Rules" 27 a b) E = .ok (.bl z) E := by
  rw [ev_cmpX, ha]
  show (ev call none b E).bind _ = _
  rw [hb]
  show (if x.isTu = true ∧ y.isFz "Rules" = true then _ else R.bad) = _
  rw [if_pos ⟨fx, fy⟩, hc]
theorem deq_bl {a b : Bool} : deq (.bl a) (.bl b) = some (a == b) := by
  unfold deq
  show peq (.bool a) (.bool b) = _
  unfold peq
  rw [if_pos ⟨rfl, rfl, Nat.zero_le _⟩]
  cases a <;> cases b <;> rfl
theorem ne_ok {w : Bool} (ha : ev call none a E = .ok (.bl z) E) (hb : ev call none b E = .ok (.bl w) E) : ev call none (.op .ne (.cons a (.cons b .nil))) E = .ok (.bl (!(z == w))) E := by
  rw [ev_op, evs_cons, ha]
  show ((evs call none (.cons b .nil) E).bind fun ds E2 => R.ok (D.bl z :: ds) E2).bind _ = _
  rw [evs_cons, hb]
  show (match (deq (.bl z) (.bl w)).map fun c => D.bl (!c) with | some d => R.ok d E | none => .bad) = _
  rw [deq_bl] <;> rfl
theorem or_F (ha : ev call none a E = .ok (.bl false) E) (hb : ev call none b E = .ok (.bl z) E) : ev call none (.or a b) E = .ok (.bl z) E := by
  rw [ev_or, ha]
  exact hb
theorem not_ok (ha : ev call none a E = .ok (.bl z) E) : ev call none (.not a) E = .ok (.bl (!z)) E := by
  rw [ev_not, ha] <;> rfl
theorem if_F {t : B} (ha : ev call none a E = .ok (.bl false) E) : ex call W none (.ifs a t .nil) E = .nx E := by
  rw [ex_ifs, ha]
  rfl
theorem ret_ok (ha : ev call none a E = .ok x E) : ex call W none (.ret a) E = .rt x E := by
  show (match ev call none a E with
    | .ok d E1 => O.rt d E1
    | .exc c d E1 => .exc c d E1
    | .bad => .bad) = _
  rw [ha]
end
theorem mkR {as : As} {E : En} {d : D} {u : List Int} (s : Sgs u) (hl : u.length ≤ 90000) (hd : d = .tup (iL u) ∨ d = .lst false (iL u)) (e : evA C none as E = .ok [d] E) (hb : back as [d] E = E) : ev C none (.fz (.make "Rules" 26 as)) E = .ok (rulesO false u) E := by
  rw [ev_fz, ev_make, e]
  show (match C 26 [insO true [] [], d] with
    | .ret .non (d :: ps) => R.ok d (back as ps E)
    | .exc k d (_ :: ps) => .exc k d (back as ps E)
    | _ => .bad).bind _ = _
  rw [show C 26 [insO true [] [], d] = .ret .non [rulesO true u, d] from cInit 7 s hl hd]
  show R.ok (rulesO true u).frz (back as [d] E) = _
  rw [hb, frz_rules]
abbrev E0 (s : D) : En := [some s, none, none, none, none, none, none, none, none, none, none]
theorem pre (ns : List Int) : ∃ (T lk : D) (st st2 : Int) (rs rs2 : List RRu) (ts : List Int), Sg st ∧ Sg st2 ∧ (∀ r ∈ rs, r.ok ∧ r.its.length ≤ 3) ∧ rs.length ≤ 20 ∧ (∀ r ∈ rs2, r.ok ∧ r.its.length ≤ 3) ∧ rs2.length ≤ 20 ∧ Sgs ts ∧ ts.length ≤ 1000 ∧ NR ts ∧
    ∀ r o, exs C WN none r [some (.scr (ns.map D.int)), some T, some lk, some (.int st), some (.lst false (rs.map RRu.d)), some (.int st2), some (.lst false (rs2.map RRu.d)), some (.tup (iL ts)), none, none, none] = o →
      exs C WN none (.cons b25_0 (.cons b25_1 (.cons b25_2 (.cons b25_3 (.cons b25_4 (.cons b25_5 (.cons b25_6 (.cons b25_7 r)))))))) (E0 (.scr (ns.map D.int))) = o := by
  obtain ⟨T0, h0, e0⟩ := callTape (P := P) (W := WN) (f := 14) rfl ns
  have e0 := e0 11
  obtain ⟨lk, T1, lk0, lk1, h1, e1⟩ := cPick 11 h0 2 (by decide) (by decide)
  obtain ⟨st, T2, st0, h2, e2⟩ := cSign 10 h1
  obtain ⟨rs, T3, ok, lr, h3, e3⟩ := cRules h2
  obtain ⟨q, T4, q0, h4, e4⟩ := cSign 10 h3
  obtain ⟨qs, T5, okq, lq, h5, e5⟩ := cRules h4
  have t0 := (tape_own h0).1
  have t1 := (tape_own h1).1
  have t2 := (tape_own h2).1
  have t3 := (tape_own h3).1
  have t4 := (tape_own h4).1
  have t5 := (tape_own h5).1
  generalize hW : ns.map D.int = S0
  have e0 : C 14 [.scr S0] = .ret T0 [.scr S0] := by rw [← hW]; exact e0
  have fr : ∀ us : List RRu, frzL (us.map RRu.d) = us.map RRu.d := frzL_rus
  obtain ⟨T6, st2, rs2, h6, st20, ok2, l2, s6⟩ : ∃ (T6 : D) (st2 : Int) (rs2 : List RRu), Tape T6 ∧ Sg st2 ∧ (∀ r ∈ rs2, r.ok ∧ r.its.length ≤ 3) ∧ rs2.length ≤ 20 ∧ ex C WN none b25_6 [some (.scr S0), some T5, some (.int lk), some (.int st), some (.lst false (rs.map RRu.d)), some (.int q), some (.lst false (qs.map RRu.d)), none, none, none, none] = .nx [some (.scr S0), some T6, some (.int lk), some (.int st), some (.lst false (rs.map RRu.d)), some (.int st2), some (.lst false (rs2.map RRu.d)), none, none, none, none] := by
    by_cases c : lk = 0
    · obtain ⟨rs', T6, ok', l', h6, e6⟩ := cTurned h5 ok (by omega)
      refine ⟨T6, st, rs', h6, st0, ok', by omega, ?_⟩
      have f1 := fr rs'
      generalize rs.map RRu.d = R at *
      generalize qs.map RRu.d = Q at *
      generalize rs'.map RRu.d = R' at *
      simp [b25_6, runFn, exs, ex, ev, evs, evA, back, sv, svs, Tg.bind, ixP, fins, B.asg, S.asg, Tg.asg, deq_int, e6, t5, c, f1]
    · refine ⟨T5, q, qs, h5, q0, okq, by omega, ?_⟩
      generalize rs.map RRu.d = R
      generalize qs.map RRu.d = Q
      simp [b25_6, runFn, exs, ex, ev, evs, evA, back, sv, svs, Tg.bind, ixP, fins, B.asg, S.asg, Tg.asg, deq_int, c]
  obtain ⟨ts, T7, hts, lts, nr, h7, e7⟩ := cTail h6
  have t6 := (tape_own h6).1
  refine ⟨T7, .int lk, st, st2, rs, rs2, ts, st0, st20, ok, by omega, ok2, l2, hts, lts, nr, fun r o hh => ?_⟩
  have f1 := fr rs
  have f2 := fr qs
  generalize rs.map RRu.d = R at *
  generalize qs.map RRu.d = Q at *
  generalize rs2.map RRu.d = R2 at *
  generalize iL ts = TS at *
  have e1 : C 15 [T0, .int 2] = .ret (.int lk) [T1, .int 2] := e1
  have e2 : C 16 [T1] = .ret (.int st) [T2] := e2
  have e4 : C 16 [T3] = .ret (.int q) [T4] := e4
  refine exs_step (E1 := [some (.scr S0), some T0, none, none, none, none, none, none, none, none, none]) (by simp [b25_0, runFn, exs, ex, ev, evs, evA, back, sv, svs, Tg.bind, ixP, fins, B.asg, S.asg, Tg.asg, deq_int, e0]) ?_
  refine exs_step (E1 := [some (.scr S0), some T1, some (.int lk), none, none, none, none, none, none, none, none]) (by simp [b25_1, runFn, exs, ex, ev, evs, evA, back, sv, svs, Tg.bind, ixP, fins, B.asg, S.asg, Tg.asg, deq_int, e1, t0]) ?_
  refine exs_step (E1 := [some (.scr S0), some T2, some (.int lk), some (.int st), none, none, none, none, none, none, none]) (by simp [b25_2, runFn, exs, ex, ev, evs, evA, back, sv, svs, Tg.bind, ixP, fins, B.asg, S.asg, Tg.asg, deq_int, e2, t1]) ?_
  refine exs_step (E1 := [some (.scr S0), some T3, some (.int lk), some (.int st), some (.lst false R), none, none, none, none, none, none]) (by simp [b25_3, runFn, exs, ex, ev, evs, evA, back, sv, svs, Tg.bind, ixP, fins, B.asg, S.asg, Tg.asg, deq_int, e3, t2, f1]) ?_
  refine exs_step (E1 := [some (.scr S0), some T4, some (.int lk), some (.int st), some (.lst false R), some (.int q), none, none, none, none, none]) (by simp [b25_4, runFn, exs, ex, ev, evs, evA, back, sv, svs, Tg.bind, ixP, fins, B.asg, S.asg, Tg.asg, deq_int, e4, t3]) ?_
  refine exs_step (E1 := [some (.scr S0), some T5, some (.int lk), some (.int st), some (.lst false R), some (.int q), some (.lst false Q), none, none, none, none]) (by simp [b25_5, runFn, exs, ex, ev, evs, evA, back, sv, svs, Tg.bind, ixP, fins, B.asg, S.asg, Tg.asg, deq_int, e5, t4, f2]) ?_
  refine exs_step s6 ?_
  exact exs_step (by simp [b25_7, runFn, exs, ex, ev, evs, evA, back, sv, svs, Tg.bind, ixP, fins, B.asg, S.asg, Tg.asg, deq_int, e7, t6]) hh
theorem run_law (ns : List Int) : ∃ E', exs C WN none b25 (E0 (.scr (ns.map D.int))) = .rt (.bl true) E' ∧ E'[0]? = some (some (.scr (ns.map D.int))) := by
  obtain ⟨T, lk, st, st2, rs, rs2, ts, st0, st20, ok', lr, ok2', lr2, hts, lts, nr, go⟩ := pre ns
  have ok : ∀ r ∈ rs, r.ok := fun r hr => (ok' r hr).1
  have ok2 : ∀ r ∈ rs2, r.ok := fun r hr => (ok2' r hr).1
  have tot : (spRus rs).length ≤ 7000 := by
    have h1 := spRus_len 3 ok'
    have h2 : (101 * 3 + 5) * rs.length ≤ 308 * 20 := Nat.mul_le_mul_left _ lr
    omega
  have tot2 : (spRus rs2).length ≤ 7000 := by
    have h1 := spRus_len 3 ok2'
    have h2 : (101 * 3 + 5) * rs2.length ≤ 308 * 20 := Nat.mul_le_mul_left _ lr2
    omega
  have sA : Sgs (st :: spRus rs) := .cons st0 (spRus_sgs ok)
  have sB : Sgs (st2 :: spRus rs2) := .cons st20 (spRus_sgs ok2)
  have sT : Sgs (st :: spRus rs ++ ts) := sA.app hts
  have lA : (st :: spRus rs).length ≤ 90000 := by simp only [List.length_cons]; omega
  have lB : (st2 :: spRus rs2).length ≤ 90000 := by simp only [List.length_cons]; omega
  have lT : (st :: spRus rs ++ ts).length ≤ 90000 := by simp only [List.length_append, List.length_cons]; omega
  have w1 := cRW st0 ok lr tot hts lts nr
  have w2 := cRW st20 ok2 lr2 tot2 .nil (by simp) (.inl rfl)
  have b1 : C 13 [.int st, .lst false (rs.map RRu.d)] = _ := cBody 6 st0 ok (by omega) (.inl rfl)
  have b2 : C 13 [.int st2, .lst false (rs2.map RRu.d)] = _ := cBody 6 st20 ok2 (by omega) (.inl rfl)
  have dAB : deq (.tup (iL (st :: spRus rs))) (.tup (iL (st2 :: spRus rs2))) = some (decide (st :: spRus rs = st2 :: spRus rs2)) := deq_tup _ _
  have dT : deq (.tup (iL ts)) (.tup []) = some (decide (ts = [])) := deq_tup ts []
  -- the same text only if the same rules
  obtain ⟨y1, hy1⟩ := (ruVs_sm false false ok).2.repr (by decide) (show 13 * (spRus rs).length ≤ 500000 by omega)
  obtain ⟨y2, hy2⟩ := (ruVs_sm false false ok2).2.repr (by decide) (show 13 * (spRus rs2).length ≤ 500000 by omega)
  rw [show ruV false false = RRu.d from funext ruV_f] at hy1 hy2
  have rd : ∀ {s s' : Int} {us vs : List RRu}, (∀ r ∈ us, r.ok) → (∀ r ∈ vs, r.ok) → s :: spRus us = s' :: spRus vs → us = vs := fun {s s' us vs} ou ov e => by
    have h1 := rdAll_of (st := s) (t := []) ou (.inl rfl)
    have h2 := rdAll_of (st := s') (t := []) ov (.inl rfl)
    rw [List.append_nil] at h1 h2
    rw [e, h2] at h1
    exact (Prod.mk.inj h1).1.symm
  have same : decide (st :: spRus rs = st2 :: spRus rs2) = (decide (st = st2) && (y1 == y2)) := by
    by_cases h : st :: spRus rs = st2 :: spRus rs2
    · have e1 := (List.cons.inj h).1
      have e2 := rd ok ok2 h
      subst e1 e2
      rw [hy1] at hy2
      have := Option.some.inj hy2
      subst this
      simp
    · rw [decide_eq_false h]
      by_cases hs : st = st2
      · have hy : ¬ y1 = y2 := fun hy => by
          have e1 := repr_rus hy1
          have e2 := repr_rus hy2
          have e3 := shown_rus ok ok2 (by rw [← e1, ← e2, hy])
          exact h (by rw [hs, e3])
        simp [hs, hy]
      · simp [hs]
  -- the calls
  have cAB : C 27 [rulesO false (st :: spRus rs), rulesO false (st2 :: spRus rs2)] = _ := cEq 11 _ _
  have cBA : C 27 [rulesO false (st2 :: spRus rs2), rulesO false (st :: spRus rs)] = _ := cEq 11 _ _
  rw [show decide (st2 :: spRus rs2 = st :: spRus rs) = decide (st :: spRus rs = st2 :: spRus rs2) from decide_eq_decide.mpr eq_comm] at cBA
  have cAA : C 27 [rulesO false (st :: spRus rs), rulesO false (st :: spRus rs)] = _ := cEq 11 _ _
  rw [decide_eq_true rfl] at cAA
  have cTA : C 27 [rulesO false (st :: spRus rs ++ ts), rulesO false (st :: spRus rs)] = _ := cEq 11 _ _
  rw [show decide (st :: spRus rs ++ ts = st :: spRus rs) = decide (ts = []) from decide_eq_decide.mpr ⟨fun h => by simpa using h, fun h => by rw [h, List.append_nil]⟩] at cTA
  have cAt : C 27 [rulesO false (st :: spRus rs), .tup (iL (st :: spRus rs))] = _ := cEqN 11 _ rfl
  have cAi : C 27 [rulesO false (st :: spRus rs), .int st] = _ := cEqN 11 _ rfl
  have zA := isFz_rules (st :: spRus rs)
  have zB := isFz_rules (st2 :: spRus rs2)
  have zT := isFz_rules (st :: spRus rs ++ ts)
  have iA : iL (st :: spRus rs) ++ iL ts = iL (st :: spRus rs ++ ts) := iL_app _ _
  have ln : (iL (st :: spRus rs)).length + (iL ts).length ≤ sizeLine := by
    rw [sizeLine_eq]
    simp only [iL, List.length_map, List.length_cons]
    omega
  have fA : fzL (iL (st :: spRus rs)) = true := fzL_ints
  have frA : frzL (iL (st :: spRus rs)) = iL (st :: spRus rs) := frzL_ints
  -- the objects
  generalize hS : D.scr (ns.map D.int) = S0 at go ⊢
  have mk : ∀ z : Bool, ∀ E : En, E = [some S0, some T, some lk, some (.int st), some (.lst false (rs.map RRu.d)), some (.int st2), some (.lst false (rs2.map RRu.d)), some (.tup (iL ts)), some (.tup (iL (st :: spRus rs))), some (.tup (iL (st2 :: spRus rs2))), some (.bl z)] →
      ev C none (.fz (.make "Rules" 26 (.nm 8 .nil))) E = .ok (rulesO false (st :: spRus rs)) E ∧ ev C none (.fz (.make "Rules" 26 (.nm 9 .nil))) E = .ok (rulesO false (st2 :: spRus rs2)) E ∧
      ev C none (.fz (.make "Rules" 26 (.ex (.fz (.new .lstOf (.cons (.var 8) .nil))) .nil))) E = .ok (rulesO false (st :: spRus rs)) E ∧ ev C none (.fz (.make "Rules" 26 (.ex (.new .add (.cons (.var 8) (.cons (.var 7) .nil))) .nil))) E = .ok (rulesO false (st :: spRus rs ++ ts)) E := by
    intro z E hE
    refine ⟨mkR sA lA (.inl rfl) ?_ ?_, mkR sB lB (.inl rfl) ?_ ?_, mkR sA lA (.inr rfl) ?_ ?_, mkR sT lT (.inl rfl) ?_ ?_⟩
    · rw [hE]
      generalize iL (st :: spRus rs) = A
      generalize iL (st2 :: spRus rs2) = Bx
      simp [runFn, exs, ex, ev, evs, evA, back, sv, svs, Tg.bind, ixP, fins, B.asg, S.asg, Tg.asg, deq_int]
    · rw [hE] <;> rfl
    · rw [hE]
      generalize iL (st :: spRus rs) = A
      generalize iL (st2 :: spRus rs2) = Bx
      simp [runFn, exs, ex, ev, evs, evA, back, sv, svs, Tg.bind, ixP, fins, B.asg, S.asg, Tg.asg, deq_int]
    · rw [hE] <;> rfl
    · rw [hE]
      generalize iL (st :: spRus rs) = A at frA ⊢
      generalize iL (st2 :: spRus rs2) = Bx
      simp [runFn, exs, ex, ev, evs, evA, back, sv, svs, Tg.bind, ixP, fins, B.asg, S.asg, Tg.asg, deq_int, frA]
    · rw [hE] <;> rfl
    · rw [hE, ← iA]
      generalize iL (st :: spRus rs) = A at ln ⊢
      generalize iL (st2 :: spRus rs2) = Bx
      generalize iL ts = TS at ln ⊢
      simp [runFn, exs, ex, ev, evs, evA, back, sv, svs, Tg.bind, ixP, fins, B.asg, S.asg, Tg.asg, deq_int, ln]
    · rw [hE] <;> rfl
  obtain ⟨m1, m2, m3, m4⟩ := mk (decide (st :: spRus rs = st2 :: spRus rs2)) _ rfl
  clear mk
  generalize rulesO false (st :: spRus rs ++ ts) = RT at *
  generalize rulesO false (st :: spRus rs) = RA at *
  generalize rulesO false (st2 :: spRus rs2) = RB at *
  have w2 : C 24 [.int st2, .lst false (rs2.map RRu.d), .tup []] = .ret (.bl true) [.int st2, .lst false (rs2.map RRu.d), .tup []] := w2
  clear sA sB sT lA lB lT iA tot tot2 rd fA frA ln
  generalize hz : decide (st :: spRus rs = st2 :: spRus rs2) = z at *
  generalize iL (st :: spRus rs) = A at *
  generalize iL (st2 :: spRus rs2) = Bx at *
  generalize iL ts = TS at *
  generalize rs.map RRu.d = R at *
  generalize rs2.map RRu.d = R2 at *
  generalize decide (ts = []) = zt at *
  have s0 : S0.fz = true := by rw [← hS]; rfl
  refine ⟨[some S0, some T, some lk, some (.int st), some (.lst false R), some (.int st2), some (.lst false R2), some (.tup TS), some (.tup A), some (.tup Bx), some (.bl z)], ?_, rfl⟩
  unfold b25
  refine go _ _ ?_
  refine exs_step (E1 := [some S0, some T, some lk, some (.int st), some (.lst false R), some (.int st2), some (.lst false R2), some (.tup TS), none, none, none]) (by simp [b25_8, runFn, exs, ex, ev, evs, evA, back, sv, svs, Tg.bind, ixP, fins, B.asg, S.asg, Tg.asg, deq_int, w1, w2]) ?_
  refine exs_step (E1 := [some S0, some T, some lk, some (.int st), some (.lst false R), some (.int st2), some (.lst false R2), some (.tup TS), some (.tup A), none, none]) (by simp [b25_9, runFn, exs, ex, ev, evs, evA, back, sv, svs, Tg.bind, ixP, fins, B.asg, S.asg, Tg.asg, deq_int, b1]) ?_
  refine exs_step (E1 := [some S0, some T, some lk, some (.int st), some (.lst false R), some (.int st2), some (.lst false R2), some (.tup TS), some (.tup A), some (.tup Bx), none]) (by simp [b25_10, runFn, exs, ex, ev, evs, evA, back, sv, svs, Tg.bind, ixP, fins, B.asg, S.asg, Tg.asg, deq_int, b2]) ?_
  refine exs_step (E1 := [some S0, some T, some lk, some (.int st), some (.lst false R), some (.int st2), some (.lst false R2), some (.tup TS), some (.tup A), some (.tup Bx), some (.bl z)]) (by simp [b25_11, runFn, exs, ex, ev, evs, evA, back, sv, svs, Tg.bind, ixP, fins, B.asg, S.asg, Tg.asg, deq_int, dAB]) ?_
  refine exs_step (E1 := [some S0, some T, some lk, some (.int st), some (.lst false R), some (.int st2), some (.lst false R2), some (.tup TS), some (.tup A), some (.tup Bx), some (.bl z)]) (by
    by_cases hs : st = st2
    · rw [decide_eq_true hs, Bool.true_and] at same
      simp [b25_12, runFn, exs, ex, ev, evs, evA, back, sv, svs, Tg.bind, ixP, fins, B.asg, S.asg, Tg.asg, deq_int, hs, hy1, hy2, deq_str, deq_bl, same]
    · rw [decide_eq_false hs, Bool.false_and] at same
      simp [b25_12, runFn, exs, ex, ev, evs, evA, back, sv, svs, Tg.bind, ixP, fins, B.asg, S.asg, Tg.asg, deq_int, hs, deq_bl, same]) ?_
  have v10 : ∀ {E : En}, E[10]? = some (some (.bl z)) → ev C none (.sx (.var 10)) E = .ok (.bl z) E := fun {E} h => by simp [runFn, exs, ex, ev, evs, evA, back, sv, svs, Tg.bind, ixP, fins, B.asg, S.asg, Tg.asg, deq_int, h]
  generalize hE : ([some S0, some T, some lk, some (.int st), some (.lst false R), some (.int st2), some (.lst false R2), some (.tup TS), some (.tup A), some (.tup Bx), some (.bl z)] : En) = E at *
  have v10 : ev C none (.sx (.var 10)) E = .ok (.bl z) E := v10 (by rw [← hE]; rfl)
  have v8 : ev C none (.sx (.var 8)) E = .ok (.tup A) E := by rw [← hE]; simp [runFn, exs, ex, ev, evs, evA, back, sv, svs, Tg.bind, ixP, fins, B.asg, S.asg, Tg.asg, deq_int]
  have v3 : ev C none (.sx (.var 3)) E = .ok (.int st) E := by rw [← hE]; simp [runFn, exs, ex, ev, evs, evA, back, sv, svs, Tg.bind, ixP, fins, B.asg, S.asg, Tg.asg, deq_int]
  have v7 : ev C none (.sx (.op .eq (.cons (.var 7) (.cons (.tup .nil) .nil)))) E = .ok (.bl zt) E := by rw [← hE]; simp [runFn, exs, ex, ev, evs, evA, back, sv, svs, Tg.bind, ixP, fins, B.asg, S.asg, Tg.asg, deq_int, dT]
  have zz : ∀ b : Bool, (!(b == b)) = false := by decide
  have a1 := ne_ok (cmpI_ok m1 m2 zA zB cAB) v10
  have a2 := ne_ok (cmpI_ok m2 m1 zB zA cBA) v10
  rw [zz] at a1 a2
  have a3 := cmpX0_ok m1 m3 zA zA cAA
  have a4 := cmpX1_ok m1 v8 zA rfl cAt
  have a5 := cmpX2_ok v8 m1 rfl zA cAt
  have a6 := ne_ok (cmpI_ok m4 m1 zT zA cTA) v7
  rw [zz] at a6
  have a7 := not_ok (cmpX1_ok m1 v3 zA rfl cAi)
  refine exs_step (E1 := E) (if_F (or_F a1 a2)) ?_
  refine exs_step (E1 := E) (if_F (or_F a3 (or_F a4 a5))) ?_
  refine exs_step (E1 := E) (if_F a6) ?_
  exact exs_ret (ret_ok a7)
theorem math (ns : List Int) (h : ns.length ≤ 63) : ∃ ps, run P WN (12 + 1) 25 [.scr (ns.map D.int)] = .ret (.bl true) ps := by
  obtain ⟨E', h1, h2⟩ := run_law ns
  refine ⟨[.scr (ns.map D.int)], ?_⟩
  rw [run_succ (fn := ⟨1, 11, b25⟩) rfl]
  have a0 : (0 : Nat) ∉ b25.asg := by decide
  refine runFn_rt (E1 := E') rfl (show 1 ≤ 11 by decide) h1 ?_
  show (match (if 0 ∈ b25.asg then (if (D.scr (ns.map D.int)).fz = true then some (D.scr (ns.map D.int)) else none) else E'[0]?.join), some [] with | some p, some ps => some (p :: ps) | _, _ => none) = _
  rw [if_neg a0, h2]
  rfl
end K07

namespace K07
open PySem PySem.Spec PyProof.Rows L2 VM
def top (i : Nat) : Stmt := PySem.Challenge.pw_trulymade_k07_bodies_there_and_back.main.body.getD i (.Pass ⟨0, 0, 0, 0⟩)
def mth (i j : Nat) : Stmt := match top i with
  | .ClassDef _ _ _ b _ _ _ _ _ _ _ => b.getD j (.Pass ⟨0, 0, 0, 0⟩)
  | s => s
def dd (x : Str) (i : Nat) : He.DefD := ⟨(x, none), x, x, defArgs (top i), defBody (top i), defScope (top i), [], []⟩
def dm (c m q : Str) (i j : Nat) : He.DefD := ⟨(c, some m), m, q, defArgs (mth i j), defBody (mth i j), defScope (mth i j), [], []⟩
def di : He.DefD := ⟨("MadeError", some "__init__"), "__init__", "MadeError.__init__", defArgs (mth 1 0), defBody (mth 1 0), defScope (mth 1 0), [.non], []⟩
def fn : List He.DefD := ([dd "is_integer" 7, dd "is_sign" 8, dd "is_row" 9, dd "checked_row" 10, dd "checked_sign" 11, dd "item_at" 15, dd "items_at" 16, dd "word_at" 17, dd "rule_at" 18, dd "is_item" 20, dd "is_rule" 21, dd "signs_of_item" 22, dd "signs_of_rule" 23, dd "body_for" 24, dd "_law_tape" 26, dd "_law_pick" 27, dd "_law_sign" 28, dd "_law_signs" 29, dd "_law_a_item" 30, dd "_law_a_rule" 31, dd "_law_rules" 32, dd "_law_spell" 33, dd "_law_tail" 34, dd "_law_turned" 35] : List He.DefD) ++ ([dd "_law_read_well" 36, dd "law" 37, dm "Rules" "__init__" "Rules.__init__" 19 0, dm "Rules" "__eq__" "Rules.__eq__" 19 1, di] : List He.DefD)
def fa : List He.Fa := ([.glo "is_integer", .glo "is_sign", .glo "is_row", .glo "checked_row", .glo "checked_sign", .glo "item_at", .glo "items_at", .glo "word_at", .glo "rule_at", .glo "is_item", .glo "is_rule", .glo "signs_of_item", .glo "signs_of_rule", .glo "body_for", .glo "_law_tape", .glo "_law_pick", .glo "_law_sign", .glo "_law_signs", .glo "_law_a_item", .glo "_law_a_rule", .glo "_law_rules", .glo "_law_spell", .glo "_law_tail", .glo "_law_turned"] : List He.Fa) ++ ([.glo "_law_read_well", .glo "law"] : List He.Fa)
def nms : List Str := (["is_integer", "is_sign", "is_row", "checked_row", "checked_sign", "item_at", "items_at", "word_at", "rule_at", "is_item", "is_rule", "signs_of_item", "signs_of_rule", "body_for", "_law_tape", "_law_pick", "_law_sign", "_law_signs", "_law_a_item", "_law_a_rule", "_law_rules", "_law_spell", "_law_tail", "_law_turned"] : List Str) ++ (["_law_read_well", "law"] : List Str)
def made : List Str := (["MadeError", "BadRow", "BadSign", "BadRule"] : List Str)
def gls : List (Str × He.Dv) := ([("MOST_ITEMS", He.Dv.int (99)), ("MOST_PUT", He.Dv.int (99)), ("SIGNS", He.Dv.int (100))] : List (Str × He.Dv))
def fr : List Str := (["all", "bool", "enumerate", "int", "isinstance", "len", "list", "range", "repr", "str", "tuple"] : List Str)
def cds : List Cd := ([⟨"Rules", ["body", "start", "rules", "tail"], ["__init__", "__eq__"]⟩] : List Cd)
abbrev T : VM.Tab := VM.tabOf nms made gls fr 26 cds
def tf : List He.Defn := []
def n0 : List Str := (["value"] : List Str)
theorem g0 (call : Nat → List D → Rr) (W lev : Nat) (tbs : Addr → Prop) : GB (T.cx n0 (defScope (top 7)) call W lev tbs) (defBody (top 7)) b0 := (gb_cons (gst_ret (ge_sx (gx_and (gx_isi (gx_var (i := 0)) rfl) (gx_one (gx_not (gx_isi (gx_var (i := 0)) rfl)))))) gb_nil)
theorem s0 : FnScope n0 (["value"] : List Str) (defScope (top 7)) := C8.fnScope_by (by decide +kernel)
def n1 : List Str := (["value"] : List Str)
theorem g1 (call : Nat → List D → Rr) (W lev : Nat) (tbs : Addr → Prop) : GB (T.cx n1 (defScope (top 8)) call W lev tbs) (defBody (top 8)) b1 := (gb_cons (gst_ret (ge_and (ge_call (hc := rfl) (ha := (ga_nm ga_nil))) (ge_one (ge_sx (gx_chain cr_le cr_lt gx_int (gx_var (i := 0)) gx_glo))))) gb_nil)
theorem s1 : FnScope n1 (["value"] : List Str) (defScope (top 8)) := C8.fnScope_by (by decide +kernel)
def n2 : List Str := (["value", "sign"] : List Str)
theorem g2 (call : Nat → List D → Rr) (W lev : Nat) (tbs : Addr → Prop) : GB (T.cx n2 (defScope (top 9)) call W lev tbs) (defBody (top 9)) b2 := (gb_cons (gst_if (gt_sx (gxt_not (gxt_val (gx_isi2 (gx_var (i := 0)) rfl rfl)))) (gb_cons (gst_ret (ge_sx gx_bl)) gb_nil) gb_nil) (gb_cons (gst_ret (ge_all rfl (ge_lc0 (own := [("sign", 1)]) rfl (gs_sx (gx_var (i := 0))) gtg_nm (ge_call (hc := rfl) (ha := (ga_nm ga_nil))) rfl (by rfl)))) gb_nil))
theorem s2 : FnScope n2 (["value"] : List Str) (defScope (top 9)) := C8.fnScope_by (by decide +kernel)
def n3 : List Str := (["row"] : List Str)
theorem g3 (call : Nat → List D → Rr) (W lev : Nat) (tbs : Addr → Prop) : GB (T.cx n3 (defScope (top 10)) call W lev tbs) (defBody (top 10)) b3 := (gb_cons (gst_if (gt_not (gt_val (ge_call (hc := rfl) (ha := (ga_nm ga_nil))))) (gb_cons (gst_raise1 rfl (ge_sx (gx_var (i := 0)))) gb_nil) gb_nil) (gb_cons (gst_ret (ge_new (ax_tupOf (gx_var (i := 0))))) gb_nil))
theorem s3 : FnScope n3 (["row"] : List Str) (defScope (top 10)) := C8.fnScope_by (by decide +kernel)
def n4 : List Str := (["sign"] : List Str)
theorem g4 (call : Nat → List D → Rr) (W lev : Nat) (tbs : Addr → Prop) : GB (T.cx n4 (defScope (top 11)) call W lev tbs) (defBody (top 11)) b4 := (gb_cons (gst_if (gt_not (gt_val (ge_call (hc := rfl) (ha := (ga_nm ga_nil))))) (gb_cons (gst_raise1 rfl (ge_sx (gx_var (i := 0)))) gb_nil) gb_nil) (gb_cons (gst_ret (ge_sx (gx_var (i := 0)))) gb_nil))
theorem s4 : FnScope n4 (["sign"] : List Str) (defScope (top 11)) := C8.fnScope_by (by decide +kernel)
def n5 : List Str := (["row", "at", "behind"] : List Str)
theorem g5 (call : Nat → List D → Rr) (W lev : Nat) (tbs : Addr → Prop) : GB (T.cx n5 (defScope (top 15)) call W lev tbs) (defBody (top 15)) b5 := (gb_cons (gst_if (gt_sx (gxt_cmp cr_ge (gx_new (ax_add (gx_var (i := 1)) gx_int)) (gx_len (gx_var (i := 0))))) (gb_cons (gst_ret (ge_sx gx_non)) gb_nil) gb_nil) (gb_cons (gst_if (gt_sx (gxt_cmp cr_eq (gx_idx (gx_var (i := 0)) (gx_var (i := 1))) gx_int)) (gb_cons (gst_set (ge_new (ax_add (gx_new (ax_add (gx_var (i := 1)) gx_int)) (gx_idx (gx_var (i := 0)) (gx_new (ax_add (gx_var (i := 1)) gx_int)))))) (gb_cons (gst_if (gt_sx (gxt_cmp cr_gt (gx_var (i := 2)) (gx_len (gx_var (i := 0))))) (gb_cons (gst_ret (ge_sx gx_non)) gb_nil) gb_nil) (gb_cons (gst_ret (ge_sx (gx_tup (gxa_cons (gx_tup (gxa_cons gx_str (gxa_cons (gx_new (ax_cut11 (gx_var (i := 0)) (gx_new (ax_add (gx_var (i := 1)) gx_int)) (gx_var (i := 2)))) gxa_nil))) (gxa_cons (gx_var (i := 2)) gxa_nil))))) gb_nil))) gb_nil) (gb_cons (gst_if (gt_sx (gxt_cmp cr_eq (gx_idx (gx_var (i := 0)) (gx_var (i := 1))) gx_int)) (gb_cons (gst_ret (ge_sx (gx_tup (gxa_cons (gx_tup (gxa_cons gx_str (gxa_cons (gx_idx (gx_var (i := 0)) (gx_new (ax_add (gx_var (i := 1)) gx_int))) gxa_nil))) (gxa_cons (gx_new (ax_add (gx_var (i := 1)) gx_int)) gxa_nil))))) gb_nil) gb_nil) (gb_cons (gst_if (gt_sx (gxt_w (gxw_and (gxt_cmp cr_eq (gx_idx (gx_var (i := 0)) (gx_var (i := 1))) gx_int) (gxw_and1 (gxt_cmp cr_lt (gx_new (ax_add (gx_var (i := 1)) gx_int)) (gx_len (gx_var (i := 0)))))))) (gb_cons (gst_ret (ge_sx (gx_tup (gxa_cons (gx_tup (gxa_cons gx_str (gxa_cons (gx_idx (gx_var (i := 0)) (gx_new (ax_add (gx_var (i := 1)) gx_int))) (gxa_cons (gx_idx (gx_var (i := 0)) (gx_new (ax_add (gx_var (i := 1)) gx_int))) gxa_nil)))) (gxa_cons (gx_new (ax_add (gx_var (i := 1)) gx_int)) gxa_nil))))) gb_nil) gb_nil) (gb_cons (gst_ret (ge_sx gx_non)) gb_nil)))))
theorem s5 : FnScope n5 (["row", "at"] : List Str) (defScope (top 15)) := C8.fnScope_by (by decide +kernel)
def n6 : List Str := (["row", "at", "items", "place", "turn", "found"] : List Str)
theorem g6 (call : Nat → List D → Rr) (W lev : Nat) (tbs : Addr → Prop) : GB (T.cx n6 (defScope (top 16)) call W lev tbs) (defBody (top 16)) b6 := (gb_cons (gst_if (gt_sx (gxt_cmp cr_ge (gx_var (i := 1)) (gx_len (gx_var (i := 0))))) (gb_cons (gst_ret (ge_sx gx_non)) gb_nil) gb_nil) (gb_cons (gst_set (ge_lst ges_nil)) (gb_cons (gst_set (ge_new (ax_add (gx_var (i := 1)) gx_int))) (gb_cons (gst_for rfl (gs_rng1 (gx_idx (gx_var (i := 0)) (gx_var (i := 1)))) gtg_nm (gb_cons (gst_set (ge_call (hc := rfl) (ha := (ga_nm (ga_nm ga_nil))))) (gb_cons (gst_if (gt_sx (gxt_isN (gx_var (i := 5)))) (gb_cons (gst_ret (ge_sx gx_non)) gb_nil) gb_nil) (gb_cons (gst_expr (ge_append (ge_sx (gx_idx (gx_var (i := 5)) gx_int)))) (gb_cons (gst_set (ge_sx (gx_idx (gx_var (i := 5)) gx_int))) gb_nil))))) (gb_cons (gst_ret (ge_sx (gx_tup (gxa_cons (gx_new (ax_tupOf (gx_var (i := 2)))) (gxa_cons (gx_var (i := 3)) gxa_nil))))) gb_nil)))))
theorem s6 : FnScope n6 (["row", "at"] : List Str) (defScope (top 16)) := C8.fnScope_by (by decide +kernel)
def n7 : List Str := (["row", "at"] : List Str)
theorem g7 (call : Nat → List D → Rr) (W lev : Nat) (tbs : Addr → Prop) : GB (T.cx n7 (defScope (top 17)) call W lev tbs) (defBody (top 17)) b7 := (gb_cons (gst_if (gt_sx (gxt_cmp cr_ge (gx_var (i := 1)) (gx_len (gx_var (i := 0))))) (gb_cons (gst_ret (ge_sx gx_non)) gb_nil) gb_nil) (gb_cons (gst_if (gt_sx (gxt_cmp cr_eq (gx_idx (gx_var (i := 0)) (gx_var (i := 1))) gx_int)) (gb_cons (gst_ret (ge_sx (gx_tup (gxa_cons gx_str (gxa_cons (gx_new (ax_add (gx_var (i := 1)) gx_int)) gxa_nil))))) gb_nil) gb_nil) (gb_cons (gst_if (gt_sx (gxt_cmp cr_eq (gx_idx (gx_var (i := 0)) (gx_var (i := 1))) gx_int)) (gb_cons (gst_ret (ge_sx (gx_tup (gxa_cons gx_str (gxa_cons (gx_new (ax_add (gx_var (i := 1)) gx_int)) gxa_nil))))) gb_nil) gb_nil) (gb_cons (gst_if (gt_sx (gxt_w (gxw_and (gxt_cmp cr_eq (gx_idx (gx_var (i := 0)) (gx_var (i := 1))) gx_int) (gxw_and1 (gxt_cmp cr_lt (gx_new (ax_add (gx_var (i := 1)) gx_int)) (gx_len (gx_var (i := 0)))))))) (gb_cons (gst_ret (ge_sx (gx_tup (gxa_cons (gx_idx (gx_var (i := 0)) (gx_new (ax_add (gx_var (i := 1)) gx_int))) (gxa_cons (gx_new (ax_add (gx_var (i := 1)) gx_int)) gxa_nil))))) gb_nil) gb_nil) (gb_cons (gst_ret (ge_sx gx_non)) gb_nil)))))
theorem s7 : FnScope n7 (["row", "at"] : List Str) (defScope (top 17)) := C8.fnScope_by (by decide +kernel)
def n8 : List Str := (["row", "at", "word", "items"] : List Str)
theorem g8 (call : Nat → List D → Rr) (W lev : Nat) (tbs : Addr → Prop) : GB (T.cx n8 (defScope (top 18)) call W lev tbs) (defBody (top 18)) b8 := (gb_cons (gst_set (ge_call (hc := rfl) (ha := (ga_nm (ga_ex (ge_new (ax_add (gx_var (i := 1)) gx_int)) ga_nil))))) (gb_cons (gst_if (gt_sx (gxt_isN (gx_var (i := 2)))) (gb_cons (gst_ret (ge_sx gx_non)) gb_nil) gb_nil) (gb_cons (gst_set (ge_call (hc := rfl) (ha := (ga_nm (ga_ex (ge_sx (gx_idx (gx_var (i := 2)) gx_int)) ga_nil))))) (gb_cons (gst_if (gt_sx (gxt_isN (gx_var (i := 3)))) (gb_cons (gst_ret (ge_sx gx_non)) gb_nil) gb_nil) (gb_cons (gst_if (gt_sx (gxt_cmp cr_eq (gx_idx (gx_var (i := 2)) gx_int) gx_str)) (gb_cons (gst_ret (ge_sx (gx_tup (gxa_cons (gx_tup (gxa_cons (gx_idx (gx_var (i := 0)) (gx_var (i := 1))) (gxa_cons (gx_idx (gx_var (i := 2)) gx_int) (gxa_cons (gx_idx (gx_var (i := 3)) gx_int) (gxa_cons gx_non gxa_nil))))) (gxa_cons (gx_idx (gx_var (i := 3)) gx_int) gxa_nil))))) gb_nil) gb_nil) (gb_cons (gst_if (gt_sx (gxt_cmp cr_ge (gx_idx (gx_var (i := 3)) gx_int) (gx_len (gx_var (i := 0))))) (gb_cons (gst_ret (ge_sx gx_non)) gb_nil) gb_nil) (gb_cons (gst_ret (ge_sx (gx_tup (gxa_cons (gx_tup (gxa_cons (gx_idx (gx_var (i := 0)) (gx_var (i := 1))) (gxa_cons (gx_idx (gx_var (i := 2)) gx_int) (gxa_cons (gx_idx (gx_var (i := 3)) gx_int) (gxa_cons (gx_idx (gx_var (i := 0)) (gx_idx (gx_var (i := 3)) gx_int)) gxa_nil))))) (gxa_cons (gx_new (ax_add (gx_idx (gx_var (i := 3)) gx_int) gx_int)) gxa_nil))))) gb_nil)))))))
theorem s8 : FnScope n8 (["row", "at"] : List Str) (defScope (top 18)) := C8.fnScope_by (by decide +kernel)
def n9 : List Str := (["thing"] : List Str)
theorem g9 (call : Nat → List D → Rr) (W lev : Nat) (tbs : Addr → Prop) : GB (T.cx n9 (defScope (top 20)) call W lev tbs) (defBody (top 20)) b9 := (gb_cons (gst_if (gt_sx (gxt_w (gxw_or (gxt_not (gxt_val (gx_isi (gx_var (i := 0)) rfl))) (gxw_or (gxt_cmp cr_eq (gx_len (gx_var (i := 0))) gx_int) (gxw_or1 (gxt_not (gxt_val (gx_isi (gx_idx (gx_var (i := 0)) gx_int) rfl)))))))) (gb_cons (gst_ret (ge_sx gx_bl)) gb_nil) gb_nil) (gb_cons (gst_if (gt_sx (gxt_cmp cr_eq (gx_idx (gx_var (i := 0)) gx_int) gx_str)) (gb_cons (gst_ret (ge_and (ge_sx (gx_cmp cr_eq (gx_len (gx_var (i := 0))) gx_int)) (ge_and (ge_call (hc := rfl) (ha := (ga_ex (ge_sx (gx_idx (gx_var (i := 0)) gx_int)) ga_nil))) (ge_one (ge_sx (gx_cmp cr_le (gx_len (gx_idx (gx_var (i := 0)) gx_int)) gx_glo)))))) gb_nil) gb_nil) (gb_cons (gst_if (gt_sx (gxt_cmp cr_eq (gx_idx (gx_var (i := 0)) gx_int) gx_str)) (gb_cons (gst_ret (ge_and (ge_sx (gx_cmp cr_eq (gx_len (gx_var (i := 0))) gx_int)) (ge_one (ge_call (hc := rfl) (ha := (ga_ex (ge_sx (gx_idx (gx_var (i := 0)) gx_int)) ga_nil)))))) gb_nil) gb_nil) (gb_cons (gst_if (gt_sx (gxt_cmp cr_eq (gx_idx (gx_var (i := 0)) gx_int) gx_str)) (gb_cons (gst_ret (ge_and (ge_sx (gx_cmp cr_eq (gx_len (gx_var (i := 0))) gx_int)) (ge_and (ge_call (hc := rfl) (ha := (ga_ex (ge_sx (gx_idx (gx_var (i := 0)) gx_int)) ga_nil))) (ge_one (ge_call (hc := rfl) (ha := (ga_ex (ge_sx (gx_idx (gx_var (i := 0)) gx_int)) ga_nil))))))) gb_nil) gb_nil) (gb_cons (gst_ret (ge_sx gx_bl)) gb_nil)))))
theorem s9 : FnScope n9 (["thing"] : List Str) (defScope (top 20)) := C8.fnScope_by (by decide +kernel)
def n10 : List Str := (["thing", "item"] : List Str)
theorem g10 (call : Nat → List D → Rr) (W lev : Nat) (tbs : Addr → Prop) : GB (T.cx n10 (defScope (top 21)) call W lev tbs) (defBody (top 21)) b10 := (gb_cons (gst_if (gt_w (gw_or (gt_sx (gxt_not (gxt_val (gx_isi (gx_var (i := 0)) rfl)))) (gw_or (gt_sx (gxt_cmp cr_ne (gx_len (gx_var (i := 0))) gx_int)) (gw_or1 (gt_not (gt_val (ge_call (hc := rfl) (ha := (ga_ex (ge_sx (gx_idx (gx_var (i := 0)) gx_int)) ga_nil))))))))) (gb_cons (gst_ret (ge_sx gx_bl)) gb_nil) gb_nil) (gb_cons (gst_if (gt_sx (gxt_w (gxw_or (gxt_not (gxt_val (gx_isi2 (gx_idx (gx_var (i := 0)) gx_int) rfl rfl))) (gxw_or1 (gxt_cmp cr_gt (gx_len (gx_idx (gx_var (i := 0)) gx_int)) gx_glo))))) (gb_cons (gst_ret (ge_sx gx_bl)) gb_nil) gb_nil) (gb_cons (gst_for rfl (gs_sx (gx_idx (gx_var (i := 0)) gx_int)) gtg_nm (gb_cons (gst_if (gt_not (gt_val (ge_call (hc := rfl) (ha := (ga_nm ga_nil))))) (gb_cons (gst_ret (ge_sx gx_bl)) gb_nil) gb_nil) gb_nil)) (gb_cons (gst_if (gt_sx (gxt_val (gx_isi (gx_idx (gx_var (i := 0)) gx_int) rfl))) (gb_cons (gst_if (gt_sx (gxt_cmp cr_eq (gx_idx (gx_var (i := 0)) gx_int) gx_str)) (gb_cons (gst_ret (ge_sx (gx_isN (gx_idx (gx_var (i := 0)) gx_int)))) gb_nil) gb_nil) (gb_cons (gst_ret (ge_and (ge_sx (gx_cmp cr_eq (gx_idx (gx_var (i := 0)) gx_int) gx_str)) (ge_one (ge_call (hc := rfl) (ha := (ga_ex (ge_sx (gx_idx (gx_var (i := 0)) gx_int)) ga_nil)))))) gb_nil)) gb_nil) (gb_cons (gst_ret (ge_and (ge_call (hc := rfl) (ha := (ga_ex (ge_sx (gx_idx (gx_var (i := 0)) gx_int)) ga_nil))) (ge_one (ge_call (hc := rfl) (ha := (ga_ex (ge_sx (gx_idx (gx_var (i := 0)) gx_int)) ga_nil)))))) gb_nil)))))
theorem s10 : FnScope n10 (["thing"] : List Str) (defScope (top 21)) := C8.fnScope_by (by decide +kernel)
def n11 : List Str := (["item"] : List Str)
theorem g11 (call : Nat → List D → Rr) (W lev : Nat) (tbs : Addr → Prop) : GB (T.cx n11 (defScope (top 22)) call W lev tbs) (defBody (top 22)) b11 := (gb_cons (gst_if (gt_sx (gxt_cmp cr_eq (gx_idx (gx_var (i := 0)) gx_int) gx_str)) (gb_cons (gst_ret (ge_add (ge_lst (ges_cons (ge_sx gx_int) (ges_cons (ge_sx (gx_len (gx_idx (gx_var (i := 0)) gx_int))) ges_nil))) (ge_sx (gx_new (ax_lstOf (gx_idx (gx_var (i := 0)) gx_int)))))) gb_nil) gb_nil) (gb_cons (gst_if (gt_sx (gxt_cmp cr_eq (gx_idx (gx_var (i := 0)) gx_int) gx_str)) (gb_cons (gst_ret (ge_lst (ges_cons (ge_sx gx_int) (ges_cons (ge_sx (gx_idx (gx_var (i := 0)) gx_int)) ges_nil)))) gb_nil) gb_nil) (gb_cons (gst_ret (ge_lst (ges_cons (ge_sx gx_int) (ges_cons (ge_sx (gx_idx (gx_var (i := 0)) gx_int)) (ges_cons (ge_sx (gx_idx (gx_var (i := 0)) gx_int)) ges_nil))))) gb_nil)))
theorem s11 : FnScope n11 (["item"] : List Str) (defScope (top 22)) := C8.fnScope_by (by decide +kernel)
def n12 : List Str := (["rule", "signs", "item"] : List Str)
theorem g12 (call : Nat → List D → Rr) (W lev : Nat) (tbs : Addr → Prop) : GB (T.cx n12 (defScope (top 23)) call W lev tbs) (defBody (top 23)) b12 := (gb_cons (gst_set (ge_lst (ges_cons (ge_sx (gx_idx (gx_var (i := 0)) gx_int)) ges_nil))) (gb_cons (gst_if (gt_sx (gxt_cmp cr_eq (gx_idx (gx_var (i := 0)) gx_int) gx_str)) (gb_cons (gst_expr (ge_append (ge_sx gx_int))) gb_nil) (gb_cons (gst_if (gt_sx (gxt_cmp cr_eq (gx_idx (gx_var (i := 0)) gx_int) gx_str)) (gb_cons (gst_expr (ge_append (ge_sx gx_int))) gb_nil) (gb_cons (gst_expr (ge_extend (ge_lst (ges_cons (ge_sx gx_int) (ges_cons (ge_sx (gx_idx (gx_var (i := 0)) gx_int)) ges_nil))))) gb_nil)) gb_nil)) (gb_cons (gst_expr (ge_append (ge_sx (gx_len (gx_idx (gx_var (i := 0)) gx_int))))) (gb_cons (gst_for rfl (gs_sx (gx_idx (gx_var (i := 0)) gx_int)) gtg_nm (gb_cons (gst_expr (ge_extend (ge_call (hc := rfl) (ha := (ga_nm ga_nil))))) gb_nil)) (gb_cons (gst_if (gt_sx (gxt_notN (gx_idx (gx_var (i := 0)) gx_int))) (gb_cons (gst_expr (ge_append (ge_sx (gx_idx (gx_var (i := 0)) gx_int)))) gb_nil) gb_nil) (gb_cons (gst_ret (ge_tk (i := 1))) gb_nil))))))
theorem s12 : FnScope n12 (["rule"] : List Str) (defScope (top 23)) := C8.fnScope_by (by decide +kernel)
def n13 : List Str := (["start", "rules", "signs", "at", "rule"] : List Str)
theorem g13 (call : Nat → List D → Rr) (W lev : Nat) (tbs : Addr → Prop) : GB (T.cx n13 (defScope (top 24)) call W lev tbs) (defBody (top 24)) b13 := (gb_cons (gst_expr (ge_call (hc := rfl) (ha := (ga_nm ga_nil)))) (gb_cons (gst_if (gt_sx (gxt_not (gxt_val (gx_isi2 (gx_var (i := 1)) rfl rfl)))) (gb_cons (gst_raise1 rfl (ge_sx (gx_un (fun _ => un_neg) (fun _ => os_neg) gx_int))) gb_nil) gb_nil) (gb_cons (gst_set (ge_lst (ges_cons (ge_sx (gx_var (i := 0))) ges_nil))) (gb_cons (gst_for rfl (gs_enum (gx_var (i := 1))) (gtg_tup rfl (gtgs_cons (gtgs_cons gtgs_nil))) (gb_cons (gst_if (gt_not (gt_val (ge_call (hc := rfl) (ha := (ga_nm ga_nil))))) (gb_cons (gst_raise1 rfl (ge_sx (gx_var (i := 3)))) gb_nil) gb_nil) (gb_cons (gst_expr (ge_extend (ge_call (hc := rfl) (ha := (ga_nm ga_nil))))) gb_nil))) (gb_cons (gst_ret (ge_new (ax_tupOf (gx_var (i := 2))))) gb_nil)))))
theorem s13 : FnScope n13 (["start", "rules"] : List Str) (defScope (top 24)) := C8.fnScope_by (by decide +kernel)
def n14 : List Str := (["script"] : List Str)
theorem g14 (call : Nat → List D → Rr) (W lev : Nat) (tbs : Addr → Prop) : GB (T.cx n14 (defScope (top 26)) call W lev tbs) (defBody (top 26)) b14 := (gb_cons (gst_ret (ge_lst (ges_cons (ge_sx (gx_new (ax_lstOf (gx_var (i := 0))))) (ges_cons (ge_sx gx_int) (ges_cons (ge_sx gx_int) (ges_cons (ge_sx gx_int) (ges_cons (ge_sx gx_int) ges_nil))))))) gb_nil)
theorem s14 : FnScope n14 (["script"] : List Str) (defScope (top 26)) := C8.fnScope_by (by decide +kernel)
def n15 : List Str := (["tape", "size", "cell", "mixed", "digit"] : List Str)
theorem g15 (call : Nat → List D → Rr) (W lev : Nat) (tbs : Addr → Prop) : GB (T.cx n15 (defScope (top 27)) call W lev tbs) (defBody (top 27)) b15 := (gb_cons (gst_if (gt_sx (gxt_cmp cr_gt (gx_idx (gx_var (i := 0)) gx_int) gx_int)) (gb_cons (gst_set (ge_sx (gx_bin (fun _ => op_mod) (fun _ => os_mod) (gx_toInt (gx_idx (gx_var (i := 0)) gx_int)) (gx_var (i := 1))))) (gb_cons (gst_put (ge_sx (gx_bin (fun _ => op_fdiv) (fun _ => os_fdiv) (gx_idx (gx_var (i := 0)) gx_int) (gx_var (i := 1)))) gx_int) (gb_cons (gst_ret (ge_sx (gx_var (i := 4)))) gb_nil))) gb_nil) (gb_cons (gst_put (ge_sx (gx_new (ax_add (gx_idx (gx_var (i := 0)) gx_int) gx_int))) gx_int) (gb_cons (gst_set (ge_sx gx_int)) (gb_cons (gst_if (gt_sx (gxt_cmp cr_lt (gx_idx (gx_var (i := 0)) gx_int) (gx_len (gx_idx (gx_var (i := 0)) gx_int)))) (gb_cons (gst_set (ge_sx (gx_idx (gx_idx (gx_var (i := 0)) gx_int) (gx_idx (gx_var (i := 0)) gx_int)))) (gb_cons (gst_put (ge_sx (gx_new (ax_add (gx_idx (gx_var (i := 0)) gx_int) gx_int))) gx_int) gb_nil)) gb_nil) (gb_cons (gst_if (gt_sx (gxt_cmp cr_ge (gx_var (i := 2)) (gx_bin (fun _ => op_pow) (fun _ => os_pow) gx_int gx_int))) (gb_cons (gst_put (ge_sx (gx_bin (fun _ => op_fdiv) (fun _ => os_fdiv) (gx_var (i := 2)) (gx_var (i := 1)))) gx_int) (gb_cons (gst_ret (ge_sx (gx_bin (fun _ => op_mod) (fun _ => os_mod) (gx_toInt (gx_var (i := 2))) (gx_var (i := 1))))) gb_nil)) gb_nil) (gb_cons (gst_set (ge_sx (gx_bin (fun _ => op_mod) (fun _ => os_mod) (gx_toInt (gx_new (ax_add (gx_new (ax_add (gx_new (ax_mul (gx_idx (gx_var (i := 0)) gx_int) gx_int)) (gx_bin (fun _ => op_mod) (fun _ => os_mod) (gx_toInt (gx_var (i := 2))) gx_int))) (gx_new (ax_mul (gx_idx (gx_var (i := 0)) gx_int) gx_int))))) gx_int))) (gb_cons (gst_set (ge_sx (gx_bin (fun _ => op_mod) (fun _ => os_mod) (gx_toInt (gx_new (ax_mul (gx_var (i := 3)) (gx_new (ax_add (gx_bin (fun _ => op_fdiv) (fun _ => os_fdiv) (gx_var (i := 3)) gx_int) gx_int))))) gx_int))) (gb_cons (gst_put (ge_sx (gx_var (i := 3))) gx_int) (gb_cons (gst_ret (ge_sx (gx_bin (fun _ => op_mod) (fun _ => os_mod) (gx_toInt (gx_bin (fun _ => op_fdiv) (fun _ => os_fdiv) (gx_var (i := 3)) gx_int)) (gx_var (i := 1))))) gb_nil)))))))))
theorem s15 : FnScope n15 (["tape", "size"] : List Str) (defScope (top 27)) := C8.fnScope_by (by decide +kernel)
def n16 : List Str := (["tape", "kind"] : List Str)
theorem g16 (call : Nat → List D → Rr) (W lev : Nat) (tbs : Addr → Prop) : GB (T.cx n16 (defScope (top 28)) call W lev tbs) (defBody (top 28)) b16 := (gb_cons (gst_set (ge_call (hc := rfl) (ha := (ga_nm (ga_ex (ge_sx gx_int) ga_nil))))) (gb_cons (gst_if (gt_sx (gxt_cmp cr_eq (gx_var (i := 1)) gx_int)) (gb_cons (gst_ret (ge_call (hc := rfl) (ha := (ga_nm (ga_ex (ge_sx gx_int) ga_nil))))) gb_nil) gb_nil) (gb_cons (gst_if (gt_sx (gxt_cmp cr_eq (gx_var (i := 1)) gx_int)) (gb_cons (gst_ret (ge_bin (fun _ => op_sub) (fun _ => os_sub) (ge_sx gx_int) (ge_call (hc := rfl) (ha := (ga_nm (ga_ex (ge_sx gx_int) ga_nil)))))) gb_nil) gb_nil) (gb_cons (gst_ret (ge_call (hc := rfl) (ha := (ga_nm (ga_ex (ge_sx gx_int) ga_nil))))) gb_nil))))
theorem s16 : FnScope n16 (["tape"] : List Str) (defScope (top 28)) := C8.fnScope_by (by decide +kernel)
def n17 : List Str := (["tape", "many", "row", "k"] : List Str)
theorem g17 (call : Nat → List D → Rr) (W lev : Nat) (tbs : Addr → Prop) : GB (T.cx n17 (defScope (top 29)) call W lev tbs) (defBody (top 29)) b17 := (gb_cons (gst_set (ge_lst ges_nil)) (gb_cons (gst_for rfl (gs_rng1 (gx_var (i := 1))) gtg_nm (gb_cons (gst_expr (ge_append (ge_call (hc := rfl) (ha := (ga_nm ga_nil))))) gb_nil)) (gb_cons (gst_ret (ge_tk (i := 2))) gb_nil)))
theorem s17 : FnScope n17 (["tape", "many"] : List Str) (defScope (top 29)) := C8.fnScope_by (by decide +kernel)
def n18 : List Str := (["tape", "kind", "size"] : List Str)
theorem g18 (call : Nat → List D → Rr) (W lev : Nat) (tbs : Addr → Prop) : GB (T.cx n18 (defScope (top 30)) call W lev tbs) (defBody (top 30)) b18 := (gb_cons (gst_set (ge_call (hc := rfl) (ha := (ga_nm (ga_ex (ge_sx gx_int) ga_nil))))) (gb_cons (gst_if (gt_sx (gxt_cmp cr_le (gx_var (i := 1)) gx_int)) (gb_cons (gst_set (ge_call (hc := rfl) (ha := (ga_nm (ga_ex (ge_sx gx_int) ga_nil))))) (gb_cons (gst_if (gt_cmp cr_eq (ge_call (hc := rfl) (ha := (ga_nm (ga_ex (ge_sx gx_int) ga_nil)))) (ge_sx gx_int)) (gb_cons (gst_set (ge_add (ge_sx gx_int) (ge_call (hc := rfl) (ha := (ga_nm (ga_ex (ge_sx gx_int) ga_nil)))))) gb_nil) gb_nil) (gb_cons (gst_ret (ge_tup (ges_cons (ge_sx gx_str) (ges_cons (ge_tupOf (ge_call (hc := rfl) (ha := (ga_nm (ga_nm ga_nil))))) ges_nil)))) gb_nil))) gb_nil) (gb_cons (gst_if (gt_sx (gxt_cmp cr_le (gx_var (i := 1)) gx_int)) (gb_cons (gst_ret (ge_tup (ges_cons (ge_sx gx_str) (ges_cons (ge_call (hc := rfl) (ha := (ga_nm ga_nil))) ges_nil)))) gb_nil) gb_nil) (gb_cons (gst_ret (ge_tup (ges_cons (ge_sx gx_str) (ges_cons (ge_call (hc := rfl) (ha := (ga_nm ga_nil))) (ges_cons (ge_call (hc := rfl) (ha := (ga_nm ga_nil))) ges_nil))))) gb_nil))))
theorem s18 : FnScope n18 (["tape"] : List Str) (defScope (top 30)) := C8.fnScope_by (by decide +kernel)
def n19 : List Str := (["tape", "stands", "stand", "kind", "items", "k", "follows"] : List Str)
theorem g19 (call : Nat → List D → Rr) (W lev : Nat) (tbs : Addr → Prop) : GB (T.cx n19 (defScope (top 31)) call W lev tbs) (defBody (top 31)) b19 := (gb_cons (gst_set (ge_call (hc := rfl) (ha := (ga_nm (ga_nm ga_nil))))) (gb_cons (gst_set (ge_call (hc := rfl) (ha := (ga_nm (ga_ex (ge_sx gx_int) ga_nil))))) (gb_cons (gst_set (ge_lst ges_nil)) (gb_cons (gst_for rfl (gs_rngM (ge_call (hc := rfl) (ha := (ga_nm (ga_ex (ge_sx gx_int) ga_nil))))) gtg_nm (gb_cons (gst_expr (ge_append (ge_call (hc := rfl) (ha := (ga_nm ga_nil))))) gb_nil)) (gb_cons (gst_if (gt_sx (gxt_cmp cr_eq (gx_var (i := 3)) gx_int)) (gb_cons (gst_ret (ge_sx (gx_tup (gxa_cons (gx_var (i := 2)) (gxa_cons gx_str (gxa_cons (gx_new (ax_tupOf (gx_var (i := 4)))) (gxa_cons gx_non gxa_nil))))))) gb_nil) gb_nil) (gb_cons (gst_set (ge_call (hc := rfl) (ha := (ga_nm (ga_nm ga_nil))))) (gb_cons (gst_if (gt_sx (gxt_cmp cr_le (gx_var (i := 3)) gx_int)) (gb_cons (gst_ret (ge_sx (gx_tup (gxa_cons (gx_var (i := 2)) (gxa_cons gx_str (gxa_cons (gx_new (ax_tupOf (gx_var (i := 4)))) (gxa_cons (gx_var (i := 6)) gxa_nil))))))) gb_nil) gb_nil) (gb_cons (gst_ret (ge_tup (ges_cons (ge_sx (gx_var (i := 2))) (ges_cons (ge_call (hc := rfl) (ha := (ga_nm ga_nil))) (ges_cons (ge_sx (gx_new (ax_tupOf (gx_var (i := 4))))) (ges_cons (ge_sx (gx_var (i := 6))) ges_nil)))))) gb_nil))))))))
theorem s19 : FnScope n19 (["tape", "stands"] : List Str) (defScope (top 31)) := C8.fnScope_by (by decide +kernel)
def n20 : List Str := (["tape", "most", "stands", "rules", "k"] : List Str)
theorem g20 (call : Nat → List D → Rr) (W lev : Nat) (tbs : Addr → Prop) : GB (T.cx n20 (defScope (top 32)) call W lev tbs) (defBody (top 32)) b20 := (gb_cons (gst_set (ge_add (ge_sx gx_int) (ge_call (hc := rfl) (ha := (ga_nm (ga_ex (ge_sx gx_int) ga_nil)))))) (gb_cons (gst_if (gt_cmp cr_eq (ge_call (hc := rfl) (ha := (ga_nm (ga_ex (ge_sx gx_int) ga_nil)))) (ge_sx gx_int)) (gb_cons (gst_set (ge_sx gx_int)) gb_nil) gb_nil) (gb_cons (gst_set (ge_lst ges_nil)) (gb_cons (gst_for rfl (gs_rngM (ge_call (hc := rfl) (ha := (ga_nm (ga_ex (ge_new (ax_add (gx_var (i := 1)) gx_int)) ga_nil))))) gtg_nm (gb_cons (gst_expr (ge_append (ge_call (hc := rfl) (ha := (ga_nm (ga_nm ga_nil)))))) gb_nil)) (gb_cons (gst_ret (ge_tk (i := 3))) gb_nil)))))
theorem s20 : FnScope n20 (["tape", "most"] : List Str) (defScope (top 32)) := C8.fnScope_by (by decide +kernel)
def n21 : List Str := (["start", "rules", "row", "stand", "word", "items", "follows", "item"] : List Str)
theorem g21 (call : Nat → List D → Rr) (W lev : Nat) (tbs : Addr → Prop) : GB (T.cx n21 (defScope (top 33)) call W lev tbs) (defBody (top 33)) b21 := (gb_cons (gst_set (ge_lst (ges_cons (ge_sx (gx_var (i := 0))) ges_nil))) (gb_cons (gst_for rfl (gs_sx (gx_var (i := 1))) (gtg_tup rfl (gtgs_cons (gtgs_cons (gtgs_cons (gtgs_cons gtgs_nil))))) (gb_cons (gst_expr (ge_append (ge_sx (gx_var (i := 3))))) (gb_cons (gst_if (gt_sx (gxt_cmp cr_eq (gx_var (i := 4)) gx_str)) (gb_cons (gst_expr (ge_append (ge_sx gx_int))) gb_nil) (gb_cons (gst_if (gt_sx (gxt_cmp cr_eq (gx_var (i := 4)) gx_str)) (gb_cons (gst_expr (ge_append (ge_sx gx_int))) gb_nil) (gb_cons (gst_expr (ge_append (ge_sx gx_int))) (gb_cons (gst_expr (ge_append (ge_sx (gx_var (i := 4))))) gb_nil))) gb_nil)) (gb_cons (gst_expr (ge_append (ge_sx (gx_len (gx_var (i := 5)))))) (gb_cons (gst_for rfl (gs_sx (gx_var (i := 5))) gtg_nm (gb_cons (gst_if (gt_sx (gxt_cmp cr_eq (gx_idx (gx_var (i := 7)) gx_int) gx_str)) (gb_cons (gst_expr (ge_append (ge_sx gx_int))) (gb_cons (gst_expr (ge_append (ge_sx (gx_len (gx_idx (gx_var (i := 7)) gx_int))))) (gb_cons (gst_expr (ge_extend (ge_sx (gx_new (ax_lstOf (gx_idx (gx_var (i := 7)) gx_int)))))) gb_nil))) (gb_cons (gst_if (gt_sx (gxt_cmp cr_eq (gx_idx (gx_var (i := 7)) gx_int) gx_str)) (gb_cons (gst_expr (ge_append (ge_sx gx_int))) (gb_cons (gst_expr (ge_append (ge_sx (gx_idx (gx_var (i := 7)) gx_int)))) gb_nil)) (gb_cons (gst_expr (ge_extend (ge_lst (ges_cons (ge_sx gx_int) (ges_cons (ge_sx (gx_idx (gx_var (i := 7)) gx_int)) (ges_cons (ge_sx (gx_idx (gx_var (i := 7)) gx_int)) ges_nil)))))) gb_nil)) gb_nil)) gb_nil)) (gb_cons (gst_if (gt_sx (gxt_notN (gx_var (i := 6)))) (gb_cons (gst_expr (ge_append (ge_sx (gx_var (i := 6))))) gb_nil) gb_nil) gb_nil)))))) (gb_cons (gst_ret (ge_tk (i := 2))) gb_nil)))
theorem s21 : FnScope n21 (["start", "rules"] : List Str) (defScope (top 33)) := C8.fnScope_by (by decide +kernel)
def n22 : List Str := (["tape", "kind", "whole"] : List Str)
theorem g22 (call : Nat → List D → Rr) (W lev : Nat) (tbs : Addr → Prop) : GB (T.cx n22 (defScope (top 34)) call W lev tbs) (defBody (top 34)) b22 := (gb_cons (gst_set (ge_call (hc := rfl) (ha := (ga_nm (ga_ex (ge_sx gx_int) ga_nil))))) (gb_cons (gst_if (gt_sx (gxt_cmp cr_eq (gx_var (i := 1)) gx_int)) (gb_cons (gst_ret (ge_sx (gx_tup gxa_nil))) gb_nil) gb_nil) (gb_cons (gst_if (gt_sx (gxt_cmp cr_eq (gx_var (i := 1)) gx_int)) (gb_cons (gst_ret (ge_add (ge_tup (ges_cons (ge_call (hc := rfl) (ha := (ga_nm ga_nil))) (ges_cons (ge_add (ge_sx gx_int) (ge_call (hc := rfl) (ha := (ga_nm (ga_ex (ge_sx gx_int) ga_nil))))) ges_nil))) (ge_tupOf (ge_call (hc := rfl) (ha := (ga_nm (ga_ex (ge_fz (ge_call (hc := rfl) (ha := (ga_nm (ga_ex (ge_sx gx_int) ga_nil))))) ga_nil))))))) gb_nil) gb_nil) (gb_cons (gst_set (ge_tupOf (ge_cut10 (ge_call (hc := rfl) (ha := (ga_ex (ge_sx gx_int) (ga_ex (ge_fz (ge_lst (ges_cons (ge_call (hc := rfl) (ha := (ga_nm (ga_ex (ge_sx gx_int) ga_nil)))) ges_nil))) ga_nil)))) (ge_sx gx_int)))) (gb_cons (gst_ret (ge_cut01 (ge_sx (gx_var (i := 2))) (ge_call (hc := rfl) (ha := (ga_nm (ga_ex (ge_sx (gx_len (gx_var (i := 2)))) ga_nil)))))) gb_nil)))))
theorem s22 : FnScope n22 (["tape"] : List Str) (defScope (top 34)) := C8.fnScope_by (by decide +kernel)
def n23 : List Str := (["tape", "rules", "kind", "at"] : List Str)
theorem g23 (call : Nat → List D → Rr) (W lev : Nat) (tbs : Addr → Prop) : GB (T.cx n23 (defScope (top 35)) call W lev tbs) (defBody (top 35)) b23 := (gb_cons (gst_set (ge_call (hc := rfl) (ha := (ga_nm (ga_ex (ge_sx gx_int) ga_nil))))) (gb_cons (gst_set (ge_call (hc := rfl) (ha := (ga_nm (ga_ex (ge_new (ax_add (gx_len (gx_var (i := 1))) gx_int)) ga_nil))))) (gb_cons (gst_if (gt_sx (gxt_cmp cr_eq (gx_var (i := 2)) gx_int)) (gb_cons (gst_ret (ge_add (ge_add (ge_sx (gx_new (ax_cut01 (gx_var (i := 1)) (gx_var (i := 3))))) (ge_lst (ges_cons (ge_call (hc := rfl) (ha := (ga_nm (ga_ex (ge_sx gx_int) ga_nil)))) ges_nil))) (ge_sx (gx_new (ax_cut10 (gx_var (i := 1)) (gx_var (i := 3))))))) gb_nil) gb_nil) (gb_cons (gst_if (gt_sx (gxt_w (gxw_or (gxt_cmp cr_eq (gx_var (i := 2)) gx_int) (gxw_or1 (gxt_cmp cr_ge (gx_new (ax_add (gx_var (i := 3)) gx_int)) (gx_len (gx_var (i := 1)))))))) (gb_cons (gst_ret (ge_new (ax_add (gx_new (ax_cut01 (gx_var (i := 1)) (gx_var (i := 3)))) (gx_new (ax_cut10 (gx_var (i := 1)) (gx_new (ax_add (gx_var (i := 3)) gx_int))))))) gb_nil) gb_nil) (gb_cons (gst_ret (ge_add (ge_add (ge_sx (gx_new (ax_cut01 (gx_var (i := 1)) (gx_var (i := 3))))) (ge_lst (ges_cons (ge_sx (gx_idx (gx_var (i := 1)) (gx_new (ax_add (gx_var (i := 3)) gx_int)))) (ges_cons (ge_sx (gx_idx (gx_var (i := 1)) (gx_var (i := 3)))) ges_nil)))) (ge_sx (gx_new (ax_cut10 (gx_var (i := 1)) (gx_new (ax_add (gx_var (i := 3)) gx_int))))))) gb_nil)))))
theorem s23 : FnScope n23 (["tape", "rules"] : List Str) (defScope (top 35)) := C8.fnScope_by (by decide +kernel)
def n24 : List Str := (["start", "rules", "tail", "body", "told"] : List Str)
theorem g24 (call : Nat → List D → Rr) (W lev : Nat) (tbs : Addr → Prop) : GB (T.cx n24 (defScope (top 36)) call W lev tbs) (defBody (top 36)) b24 := (gb_cons (gst_set (ge_call (hc := rfl) (ha := (ga_nm (ga_nm ga_nil))))) (gb_cons (gst_set (ge_fz (ge_make (hm := rfl) (hc := rfl) (ha := (ga_ex (ge_new (ax_add (gx_var (i := 3)) (gx_var (i := 2)))) ga_nil))))) (gb_cons (gst_if (gt_sx (gxt_w (gxw_or (gxt_cmp cr_ne (gx_fld (gx_var (i := 4)) (fat1 rfl)) (gx_var (i := 0))) (gxw_or (gxt_cmp cr_ne (gx_fld (gx_var (i := 4)) (fat1 rfl)) (gx_new (ax_tupOf (gx_var (i := 1))))) (gxw_or (gxt_cmp cr_ne (gx_fld (gx_var (i := 4)) (fat1 rfl)) (gx_var (i := 2))) (gxw_or1 (gxt_cmp cr_ne (gx_fld (gx_var (i := 4)) (fat1 rfl)) (gx_new (ax_add (gx_var (i := 3)) (gx_var (i := 2))))))))))) (gb_cons (gst_ret (ge_sx gx_bl)) gb_nil) gb_nil) (gb_cons (gst_ret (ge_cmp cr_eq (ge_call (hc := rfl) (ha := (ga_ex (ge_sx (gx_fld (gx_var (i := 4)) (fat1 rfl))) (ga_ex (ge_sx (gx_fld (gx_var (i := 4)) (fat1 rfl))) ga_nil)))) (ge_sx (gx_var (i := 3))))) gb_nil))))
theorem s24 : FnScope n24 (["start", "rules", "tail"] : List Str) (defScope (top 36)) := C8.fnScope_by (by decide +kernel)
def n25 : List Str := (["script", "tape", "like", "start", "rules", "other", "others", "tail", "first", "second", "same"] : List Str)
theorem g25 (call : Nat → List D → Rr) (W lev : Nat) (tbs : Addr → Prop) : GB (T.cx n25 (defScope (top 37)) call W lev tbs) (defBody (top 37)) b25 := (gb_cons (gst_set (ge_call (hc := rfl) (ha := (ga_nm ga_nil)))) (gb_cons (gst_set (ge_call (hc := rfl) (ha := (ga_nm (ga_ex (ge_sx gx_int) ga_nil))))) (gb_cons (gst_set (ge_call (hc := rfl) (ha := (ga_nm ga_nil)))) (gb_cons (gst_set (ge_fz (ge_call (hc := rfl) (ha := (ga_nm (ga_ex (ge_sx gx_int) ga_nil)))))) (gb_cons (gst_set (ge_call (hc := rfl) (ha := (ga_nm ga_nil)))) (gb_cons (gst_set (ge_fz (ge_call (hc := rfl) (ha := (ga_nm (ga_ex (ge_sx gx_int) ga_nil)))))) (gb_cons (gst_if (gt_sx (gxt_cmp cr_eq (gx_var (i := 2)) gx_int)) (gb_cons (gst_set (ge_fz (ge_call (hc := rfl) (ha := (ga_nm (ga_nm ga_nil)))))) (gb_cons (gst_set (ge_sx (gx_var (i := 3)))) gb_nil)) gb_nil) (gb_cons (gst_set (ge_call (hc := rfl) (ha := (ga_nm ga_nil)))) (gb_cons (gst_if (gt_w (gw_or (gt_not (gt_val (ge_call (hc := rfl) (ha := (ga_nm (ga_nm (ga_nm ga_nil))))))) (gw_or1 (gt_not (gt_val (ge_call (hc := rfl) (ha := (ga_nm (ga_nm (ga_ex (ge_sx (gx_tup gxa_nil)) ga_nil)))))))))) (gb_cons (gst_ret (ge_sx gx_bl)) gb_nil) gb_nil) (gb_cons (gst_set (ge_call (hc := rfl) (ha := (ga_nm (ga_nm ga_nil))))) (gb_cons (gst_set (ge_call (hc := rfl) (ha := (ga_nm (ga_nm ga_nil))))) (gb_cons (gst_set (ge_sx (gx_cmp cr_eq (gx_var (i := 8)) (gx_var (i := 9))))) (gb_cons (gst_if (gt_sx (gxt_cmp cr_ne (gx_var (i := 10)) (gx_and (gx_cmp cr_eq (gx_var (i := 3)) (gx_var (i := 5))) (gx_one (gx_cmp cr_eq (gx_repr (gx_var (i := 4))) (gx_repr (gx_var (i := 6)))))))) (gb_cons (gst_ret (ge_sx gx_bl)) gb_nil) gb_nil) (gb_cons (gst_if (gt_w (gw_or (gt_cmp cr_ne (ge_cmpI (hm := rfl) (hc := rfl) (ge_fz (ge_make (hm := rfl) (hc := rfl) (ha := (ga_nm ga_nil)))) (ge_fz (ge_make (hm := rfl) (hc := rfl) (ha := (ga_nm ga_nil))))) (ge_sx (gx_var (i := 10)))) (gw_or1 (gt_cmp cr_ne (ge_cmpI (hm := rfl) (hc := rfl) (ge_fz (ge_make (hm := rfl) (hc := rfl) (ha := (ga_nm ga_nil)))) (ge_fz (ge_make (hm := rfl) (hc := rfl) (ha := (ga_nm ga_nil))))) (ge_sx (gx_var (i := 10))))))) (gb_cons (gst_ret (ge_sx gx_bl)) gb_nil) gb_nil) (gb_cons (gst_if (gt_w (gw_or (gt_cmpX0 (hm := rfl) (hc := rfl) (ge_fz (ge_make (hm := rfl) (hc := rfl) (ha := (ga_nm ga_nil)))) (ge_fz (ge_make (hm := rfl) (hc := rfl) (ha := (ga_ex (ge_fz (ge_new (ax_lstOf (gx_var (i := 8))))) ga_nil))))) (gw_or (gt_cmpX1 (hm := rfl) (hc := rfl) (ge_fz (ge_make (hm := rfl) (hc := rfl) (ha := (ga_nm ga_nil)))) (ge_sx (gx_var (i := 8)))) (gw_or1 (gt_cmpX2 (hm := rfl) (hc := rfl) (ge_sx (gx_var (i := 8))) (ge_fz (ge_make (hm := rfl) (hc := rfl) (ha := (ga_nm ga_nil))))))))) (gb_cons (gst_ret (ge_sx gx_bl)) gb_nil) gb_nil) (gb_cons (gst_if (gt_cmp cr_ne (ge_cmpI (hm := rfl) (hc := rfl) (ge_fz (ge_make (hm := rfl) (hc := rfl) (ha := (ga_ex (ge_new (ax_add (gx_var (i := 8)) (gx_var (i := 7)))) ga_nil)))) (ge_fz (ge_make (hm := rfl) (hc := rfl) (ha := (ga_nm ga_nil))))) (ge_sx (gx_cmp cr_eq (gx_var (i := 7)) (gx_tup gxa_nil)))) (gb_cons (gst_ret (ge_sx gx_bl)) gb_nil) gb_nil) (gb_cons (gst_ret (ge_not (ge_cmpX1 (hm := rfl) (hc := rfl) (ge_fz (ge_make (hm := rfl) (hc := rfl) (ha := (ga_nm ga_nil)))) (ge_sx (gx_var (i := 3)))))) gb_nil)))))))))))))))))
theorem s25 : FnScope n25 (["script"] : List Str) (defScope (top 37)) := C8.fnScope_by (by decide +kernel)
def n26 : List Str := (["self", "body", "found", "place", "rule"] : List Str)
theorem g26 (call : Nat → List D → Rr) (W lev : Nat) (tbs : Addr → Prop) : GB (T.cx n26 (defScope (mth 19 0)) call W lev tbs) (defBody (mth 19 0)) b26 := (gb_cons (gst_fset (ge_call (hc := rfl) (ha := (ga_nm ga_nil))) (fat1 rfl)) (gb_cons (gst_fset (ge_sx gx_int) (fat1 rfl)) (gb_cons (gst_set (ge_lst ges_nil)) (gb_cons (gst_set (ge_sx gx_int)) (gb_cons (gst_if (gt_sx (gxt_cmp cr_gt (gx_len (gx_fld (gx_var (i := 0)) (fat1 rfl))) gx_int)) (gb_cons (gst_fset (ge_sx (gx_idx (gx_fld (gx_var (i := 0)) (fat1 rfl)) gx_int)) (fat1 rfl)) (gb_cons (gst_set (ge_sx gx_int)) gb_nil)) gb_nil) (gb_cons (gst_while (gt_sx (gxt_cmp cr_lt (gx_var (i := 3)) (gx_len (gx_fld (gx_var (i := 0)) (fat1 rfl))))) (gb_cons (gst_set (ge_call (hc := rfl) (ha := (ga_ex (ge_sx (gx_fld (gx_var (i := 0)) (fat1 rfl))) (ga_nm ga_nil))))) (gb_cons (gst_if (gt_sx (gxt_isN (gx_var (i := 4)))) (gb_cons gst_brk gb_nil) gb_nil) (gb_cons (gst_expr (ge_append (ge_sx (gx_idx (gx_var (i := 4)) gx_int)))) (gb_cons (gst_set (ge_sx (gx_idx (gx_var (i := 4)) gx_int))) gb_nil))))) (gb_cons (gst_fset (ge_new (ax_tupOf (gx_var (i := 2)))) (fat1 rfl)) (gb_cons (gst_fset (ge_new (ax_cut10 (gx_fld (gx_var (i := 0)) (fat1 rfl)) (gx_var (i := 3)))) (fat1 rfl)) gb_nil))))))))
theorem s26 : FnScope n26 (["self", "body"] : List Str) (defScope (mth 19 0)) := C8.fnScope_by (by decide +kernel)
def n27 : List Str := (["self", "other"] : List Str)
theorem g27 (call : Nat → List D → Rr) (W lev : Nat) (tbs : Addr → Prop) : GB (T.cx n27 (defScope (mth 19 1)) call W lev tbs) (defBody (mth 19 1)) b27 := (gb_cons (gst_ret (ge_sx (gx_and (gx_isC (gx_var (i := 1)) rfl (cla1 rfl)) (gx_one (gx_cmp cr_eq (gx_fld (gx_var (i := 0)) (fat1 rfl)) (gx_fld (gx_var (i := 1)) (fat1 rfl))))))) gb_nil)
theorem s27 : FnScope n27 (["self", "other"] : List Str) (defScope (mth 19 1)) := C8.fnScope_by (by decide +kernel)
section
variable {Q : Program} {w : World} {K : PySem.W.Frag} {mg : Str → Option Value} {base : Heap} {tbs : Addr → Prop}
theorem k0 (Wd : Wld T Q w K mg base) (X : K.In base) (G : base.Ns mainGlobals mg) (c : He.SaysD fa fn K) : Good T Q w K mg base tbs P WN 0 "is_integer" := by
  obtain ⟨fd, F⟩ := c.def_ 0 (d := dd "is_integer" 7) rfl
  exact good_of (d := dd "is_integer" 7) (N := n0) (ps := (["value"] : List Str)) Wd F rfl (He.glo_ok X G (c.fact 0 (f := .glo "is_integer") rfl)) s0 rfl rfl rfl (fun k => g0 _ _ _ _) (F.bindsN fun _ _ _ _ _ _ us hl => match us, hl with | [_], _ => rfl)
theorem k1 (Wd : Wld T Q w K mg base) (X : K.In base) (G : base.Ns mainGlobals mg) (c : He.SaysD fa fn K) : Good T Q w K mg base tbs P WN 1 "is_sign" := by
  obtain ⟨fd, F⟩ := c.def_ 1 (d := dd "is_sign" 8) rfl
  exact good_of (d := dd "is_sign" 8) (N := n1) (ps := (["value"] : List Str)) Wd F rfl (He.glo_ok X G (c.fact 1 (f := .glo "is_sign") rfl)) s1 rfl rfl rfl (fun k => g1 _ _ _ _) (F.bindsN fun _ _ _ _ _ _ us hl => match us, hl with | [_], _ => rfl)
theorem k2 (Wd : Wld T Q w K mg base) (X : K.In base) (G : base.Ns mainGlobals mg) (c : He.SaysD fa fn K) : Good T Q w K mg base tbs P WN 2 "is_row" := by
  obtain ⟨fd, F⟩ := c.def_ 2 (d := dd "is_row" 9) rfl
  exact good_of (d := dd "is_row" 9) (N := n2) (ps := (["value"] : List Str)) Wd F rfl (He.glo_ok X G (c.fact 2 (f := .glo "is_row") rfl)) s2 rfl rfl rfl (fun k => g2 _ _ _ _) (F.bindsN fun _ _ _ _ _ _ us hl => match us, hl with | [_], _ => rfl)
theorem k3 (Wd : Wld T Q w K mg base) (X : K.In base) (G : base.Ns mainGlobals mg) (c : He.SaysD fa fn K) : Good T Q w K mg base tbs P WN 3 "checked_row" := by
  obtain ⟨fd, F⟩ := c.def_ 3 (d := dd "checked_row" 10) rfl
  exact good_of (d := dd "checked_row" 10) (N := n3) (ps := (["row"] : List Str)) Wd F rfl (He.glo_ok X G (c.fact 3 (f := .glo "checked_row") rfl)) s3 rfl rfl rfl (fun k => g3 _ _ _ _) (F.bindsN fun _ _ _ _ _ _ us hl => match us, hl with | [_], _ => rfl)
theorem k4 (Wd : Wld T Q w K mg base) (X : K.In base) (G : base.Ns mainGlobals mg) (c : He.SaysD fa fn K) : Good T Q w K mg base tbs P WN 4 "checked_sign" := by
  obtain ⟨fd, F⟩ := c.def_ 4 (d := dd "checked_sign" 11) rfl
  exact good_of (d := dd "checked_sign" 11) (N := n4) (ps := (["sign"] : List Str)) Wd F rfl (He.glo_ok X G (c.fact 4 (f := .glo "checked_sign") rfl)) s4 rfl rfl rfl (fun k => g4 _ _ _ _) (F.bindsN fun _ _ _ _ _ _ us hl => match us, hl with | [_], _ => rfl)
theorem k5 (Wd : Wld T Q w K mg base) (X : K.In base) (G : base.Ns mainGlobals mg) (c : He.SaysD fa fn K) : Good T Q w K mg base tbs P WN 5 "item_at" := by
  obtain ⟨fd, F⟩ := c.def_ 5 (d := dd "item_at" 15) rfl
  exact good_of (d := dd "item_at" 15) (N := n5) (ps := (["row", "at"] : List Str)) Wd F rfl (He.glo_ok X G (c.fact 5 (f := .glo "item_at") rfl)) s5 rfl rfl rfl (fun k => g5 _ _ _ _) (F.bindsN fun _ _ _ _ _ _ us hl => match us, hl with | [_, _], _ => rfl)
theorem k6 (Wd : Wld T Q w K mg base) (X : K.In base) (G : base.Ns mainGlobals mg) (c : He.SaysD fa fn K) : Good T Q w K mg base tbs P WN 6 "items_at" := by
  obtain ⟨fd, F⟩ := c.def_ 6 (d := dd "items_at" 16) rfl
  exact good_of (d := dd "items_at" 16) (N := n6) (ps := (["row", "at"] : List Str)) Wd F rfl (He.glo_ok X G (c.fact 6 (f := .glo "items_at") rfl)) s6 rfl rfl rfl (fun k => g6 _ _ _ _) (F.bindsN fun _ _ _ _ _ _ us hl => match us, hl with | [_, _], _ => rfl)
theorem k7 (Wd : Wld T Q w K mg base) (X : K.In base) (G : base.Ns mainGlobals mg) (c : He.SaysD fa fn K) : Good T Q w K mg base tbs P WN 7 "word_at" := by
  obtain ⟨fd, F⟩ := c.def_ 7 (d := dd "word_at" 17) rfl
  exact good_of (d := dd "word_at" 17) (N := n7) (ps := (["row", "at"] : List Str)) Wd F rfl (He.glo_ok X G (c.fact 7 (f := .glo "word_at") rfl)) s7 rfl rfl rfl (fun k => g7 _ _ _ _) (F.bindsN fun _ _ _ _ _ _ us hl => match us, hl with | [_, _], _ => rfl)
theorem k8 (Wd : Wld T Q w K mg base) (X : K.In base) (G : base.Ns mainGlobals mg) (c : He.SaysD fa fn K) : Good T Q w K mg base tbs P WN 8 "rule_at" := by
  obtain ⟨fd, F⟩ := c.def_ 8 (d := dd "rule_at" 18) rfl
  exact good_of (d := dd "rule_at" 18) (N := n8) (ps := (["row", "at"] : List Str)) Wd F rfl (He.glo_ok X G (c.fact 8 (f := .glo "rule_at") rfl)) s8 rfl rfl rfl (fun k => g8 _ _ _ _) (F.bindsN fun _ _ _ _ _ _ us hl => match us, hl with | [_, _], _ => rfl)
theorem k9 (Wd : Wld T Q w K mg base) (X : K.In base) (G : base.Ns mainGlobals mg) (c : He.SaysD fa fn K) : Good T Q w K mg base tbs P WN 9 "is_item" := by
  obtain ⟨fd, F⟩ := c.def_ 9 (d := dd "is_item" 20) rfl
  exact good_of (d := dd "is_item" 20) (N := n9) (ps := (["thing"] : List Str)) Wd F rfl (He.glo_ok X G (c.fact 9 (f := .glo "is_item") rfl)) s9 rfl rfl rfl (fun k => g9 _ _ _ _) (F.bindsN fun _ _ _ _ _ _ us hl => match us, hl with | [_], _ => rfl)
theorem k10 (Wd : Wld T Q w K mg base) (X : K.In base) (G : base.Ns mainGlobals mg) (c : He.SaysD fa fn K) : Good T Q w K mg base tbs P WN 10 "is_rule" := by
  obtain ⟨fd, F⟩ := c.def_ 10 (d := dd "is_rule" 21) rfl
  exact good_of (d := dd "is_rule" 21) (N := n10) (ps := (["thing"] : List Str)) Wd F rfl (He.glo_ok X G (c.fact 10 (f := .glo "is_rule") rfl)) s10 rfl rfl rfl (fun k => g10 _ _ _ _) (F.bindsN fun _ _ _ _ _ _ us hl => match us, hl with | [_], _ => rfl)
theorem k11 (Wd : Wld T Q w K mg base) (X : K.In base) (G : base.Ns mainGlobals mg) (c : He.SaysD fa fn K) : Good T Q w K mg base tbs P WN 11 "signs_of_item" := by
  obtain ⟨fd, F⟩ := c.def_ 11 (d := dd "signs_of_item" 22) rfl
  exact good_of (d := dd "signs_of_item" 22) (N := n11) (ps := (["item"] : List Str)) Wd F rfl (He.glo_ok X G (c.fact 11 (f := .glo "signs_of_item") rfl)) s11 rfl rfl rfl (fun k => g11 _ _ _ _) (F.bindsN fun _ _ _ _ _ _ us hl => match us, hl with | [_], _ => rfl)
theorem k12 (Wd : Wld T Q w K mg base) (X : K.In base) (G : base.Ns mainGlobals mg) (c : He.SaysD fa fn K) : Good T Q w K mg base tbs P WN 12 "signs_of_rule" := by
  obtain ⟨fd, F⟩ := c.def_ 12 (d := dd "signs_of_rule" 23) rfl
  exact good_of (d := dd "signs_of_rule" 23) (N := n12) (ps := (["rule"] : List Str)) Wd F rfl (He.glo_ok X G (c.fact 12 (f := .glo "signs_of_rule") rfl)) s12 rfl rfl rfl (fun k => g12 _ _ _ _) (F.bindsN fun _ _ _ _ _ _ us hl => match us, hl with | [_], _ => rfl)
theorem k13 (Wd : Wld T Q w K mg base) (X : K.In base) (G : base.Ns mainGlobals mg) (c : He.SaysD fa fn K) : Good T Q w K mg base tbs P WN 13 "body_for" := by
  obtain ⟨fd, F⟩ := c.def_ 13 (d := dd "body_for" 24) rfl
  exact good_of (d := dd "body_for" 24) (N := n13) (ps := (["start", "rules"] : List Str)) Wd F rfl (He.glo_ok X G (c.fact 13 (f := .glo "body_for") rfl)) s13 rfl rfl rfl (fun k => g13 _ _ _ _) (F.bindsN fun _ _ _ _ _ _ us hl => match us, hl with | [_, _], _ => rfl)
theorem k14 (Wd : Wld T Q w K mg base) (X : K.In base) (G : base.Ns mainGlobals mg) (c : He.SaysD fa fn K) : Good T Q w K mg base tbs P WN 14 "_law_tape" := by
  obtain ⟨fd, F⟩ := c.def_ 14 (d := dd "_law_tape" 26) rfl
  exact good_of (d := dd "_law_tape" 26) (N := n14) (ps := (["script"] : List Str)) Wd F rfl (He.glo_ok X G (c.fact 14 (f := .glo "_law_tape") rfl)) s14 rfl rfl rfl (fun k => g14 _ _ _ _) (F.bindsN fun _ _ _ _ _ _ us hl => match us, hl with | [_], _ => rfl)
theorem k15 (Wd : Wld T Q w K mg base) (X : K.In base) (G : base.Ns mainGlobals mg) (c : He.SaysD fa fn K) : Good T Q w K mg base tbs P WN 15 "_law_pick" := by
  obtain ⟨fd, F⟩ := c.def_ 15 (d := dd "_law_pick" 27) rfl
  exact good_of (d := dd "_law_pick" 27) (N := n15) (ps := (["tape", "size"] : List Str)) Wd F rfl (He.glo_ok X G (c.fact 15 (f := .glo "_law_pick") rfl)) s15 rfl rfl rfl (fun k => g15 _ _ _ _) (F.bindsN fun _ _ _ _ _ _ us hl => match us, hl with | [_, _], _ => rfl)
theorem k16 (Wd : Wld T Q w K mg base) (X : K.In base) (G : base.Ns mainGlobals mg) (c : He.SaysD fa fn K) : Good T Q w K mg base tbs P WN 16 "_law_sign" := by
  obtain ⟨fd, F⟩ := c.def_ 16 (d := dd "_law_sign" 28) rfl
  exact good_of (d := dd "_law_sign" 28) (N := n16) (ps := (["tape"] : List Str)) Wd F rfl (He.glo_ok X G (c.fact 16 (f := .glo "_law_sign") rfl)) s16 rfl rfl rfl (fun k => g16 _ _ _ _) (F.bindsN fun _ _ _ _ _ _ us hl => match us, hl with | [_], _ => rfl)
theorem k17 (Wd : Wld T Q w K mg base) (X : K.In base) (G : base.Ns mainGlobals mg) (c : He.SaysD fa fn K) : Good T Q w K mg base tbs P WN 17 "_law_signs" := by
  obtain ⟨fd, F⟩ := c.def_ 17 (d := dd "_law_signs" 29) rfl
  exact good_of (d := dd "_law_signs" 29) (N := n17) (ps := (["tape", "many"] : List Str)) Wd F rfl (He.glo_ok X G (c.fact 17 (f := .glo "_law_signs") rfl)) s17 rfl rfl rfl (fun k => g17 _ _ _ _) (F.bindsN fun _ _ _ _ _ _ us hl => match us, hl with | [_, _], _ => rfl)
theorem k18 (Wd : Wld T Q w K mg base) (X : K.In base) (G : base.Ns mainGlobals mg) (c : He.SaysD fa fn K) : Good T Q w K mg base tbs P WN 18 "_law_a_item" := by
  obtain ⟨fd, F⟩ := c.def_ 18 (d := dd "_law_a_item" 30) rfl
  exact good_of (d := dd "_law_a_item" 30) (N := n18) (ps := (["tape"] : List Str)) Wd F rfl (He.glo_ok X G (c.fact 18 (f := .glo "_law_a_item") rfl)) s18 rfl rfl rfl (fun k => g18 _ _ _ _) (F.bindsN fun _ _ _ _ _ _ us hl => match us, hl with | [_], _ => rfl)
theorem k19 (Wd : Wld T Q w K mg base) (X : K.In base) (G : base.Ns mainGlobals mg) (c : He.SaysD fa fn K) : Good T Q w K mg base tbs P WN 19 "_law_a_rule" := by
  obtain ⟨fd, F⟩ := c.def_ 19 (d := dd "_law_a_rule" 31) rfl
  exact good_of (d := dd "_law_a_rule" 31) (N := n19) (ps := (["tape", "stands"] : List Str)) Wd F rfl (He.glo_ok X G (c.fact 19 (f := .glo "_law_a_rule") rfl)) s19 rfl rfl rfl (fun k => g19 _ _ _ _) (F.bindsN fun _ _ _ _ _ _ us hl => match us, hl with | [_, _], _ => rfl)
theorem k20 (Wd : Wld T Q w K mg base) (X : K.In base) (G : base.Ns mainGlobals mg) (c : He.SaysD fa fn K) : Good T Q w K mg base tbs P WN 20 "_law_rules" := by
  obtain ⟨fd, F⟩ := c.def_ 20 (d := dd "_law_rules" 32) rfl
  exact good_of (d := dd "_law_rules" 32) (N := n20) (ps := (["tape", "most"] : List Str)) Wd F rfl (He.glo_ok X G (c.fact 20 (f := .glo "_law_rules") rfl)) s20 rfl rfl rfl (fun k => g20 _ _ _ _) (F.bindsN fun _ _ _ _ _ _ us hl => match us, hl with | [_, _], _ => rfl)
theorem k21 (Wd : Wld T Q w K mg base) (X : K.In base) (G : base.Ns mainGlobals mg) (c : He.SaysD fa fn K) : Good T Q w K mg base tbs P WN 21 "_law_spell" := by
  obtain ⟨fd, F⟩ := c.def_ 21 (d := dd "_law_spell" 33) rfl
  exact good_of (d := dd "_law_spell" 33) (N := n21) (ps := (["start", "rules"] : List Str)) Wd F rfl (He.glo_ok X G (c.fact 21 (f := .glo "_law_spell") rfl)) s21 rfl rfl rfl (fun k => g21 _ _ _ _) (F.bindsN fun _ _ _ _ _ _ us hl => match us, hl with | [_, _], _ => rfl)
theorem k22 (Wd : Wld T Q w K mg base) (X : K.In base) (G : base.Ns mainGlobals mg) (c : He.SaysD fa fn K) : Good T Q w K mg base tbs P WN 22 "_law_tail" := by
  obtain ⟨fd, F⟩ := c.def_ 22 (d := dd "_law_tail" 34) rfl
  exact good_of (d := dd "_law_tail" 34) (N := n22) (ps := (["tape"] : List Str)) Wd F rfl (He.glo_ok X G (c.fact 22 (f := .glo "_law_tail") rfl)) s22 rfl rfl rfl (fun k => g22 _ _ _ _) (F.bindsN fun _ _ _ _ _ _ us hl => match us, hl with | [_], _ => rfl)
theorem k23 (Wd : Wld T Q w K mg base) (X : K.In base) (G : base.Ns mainGlobals mg) (c : He.SaysD fa fn K) : Good T Q w K mg base tbs P WN 23 "_law_turned" := by
  obtain ⟨fd, F⟩ := c.def_ 23 (d := dd "_law_turned" 35) rfl
  exact good_of (d := dd "_law_turned" 35) (N := n23) (ps := (["tape", "rules"] : List Str)) Wd F rfl (He.glo_ok X G (c.fact 23 (f := .glo "_law_turned") rfl)) s23 rfl rfl rfl (fun k => g23 _ _ _ _) (F.bindsN fun _ _ _ _ _ _ us hl => match us, hl with | [_, _], _ => rfl)
theorem k24 (Wd : Wld T Q w K mg base) (X : K.In base) (G : base.Ns mainGlobals mg) (c : He.SaysD fa fn K) : Good T Q w K mg base tbs P WN 24 "_law_read_well" := by
  obtain ⟨fd, F⟩ := c.def_ 24 (d := dd "_law_read_well" 36) rfl
  exact good_of (d := dd "_law_read_well" 36) (N := n24) (ps := (["start", "rules", "tail"] : List Str)) Wd F rfl (He.glo_ok X G (c.fact 24 (f := .glo "_law_read_well") rfl)) s24 rfl rfl rfl (fun k => g24 _ _ _ _) (F.bindsN fun _ _ _ _ _ _ us hl => match us, hl with | [_, _, _], _ => rfl)
theorem k25 (Wd : Wld T Q w K mg base) (X : K.In base) (G : base.Ns mainGlobals mg) (c : He.SaysD fa fn K) : Good T Q w K mg base tbs P WN 25 "law" := by
  obtain ⟨fd, F⟩ := c.def_ 25 (d := dd "law" 37) rfl
  exact good_of (d := dd "law" 37) (N := n25) (ps := (["script"] : List Str)) Wd F rfl (He.glo_ok X G (c.fact 25 (f := .glo "law") rfl)) s25 rfl rfl rfl (fun k => g25 _ _ _ _) (F.bindsN fun _ _ _ _ _ _ us hl => match us, hl with | [_], _ => rfl)
theorem k26 (Wd : Wld T Q w K mg base) (X : K.In base) (G : base.Ns mainGlobals mg) (c : He.SaysD fa fn K) : GoodM T Q w K mg base tbs P WN 26 ("Rules", "__init__") := by
  obtain ⟨fd, F⟩ := c.def_ 26 (d := dm "Rules" "__init__" "Rules.__init__" 19 0) rfl
  exact goodAt_of (d := dm "Rules" "__init__" "Rules.__init__" 19 0) (N := n26) (ps := (["self", "body"] : List Str)) Wd F s26 rfl rfl rfl (fun k => g26 _ _ _ _) (F.bindsN fun _ _ _ _ _ _ us hl => match us, hl with | [_, _], _ => rfl)
theorem k27 (Wd : Wld T Q w K mg base) (X : K.In base) (G : base.Ns mainGlobals mg) (c : He.SaysD fa fn K) : GoodM T Q w K mg base tbs P WN 27 ("Rules", "__eq__") := by
  obtain ⟨fd, F⟩ := c.def_ 27 (d := dm "Rules" "__eq__" "Rules.__eq__" 19 1) rfl
  exact goodAt_of (d := dm "Rules" "__eq__" "Rules.__eq__" 19 1) (N := n27) (ps := (["self", "other"] : List Str)) Wd F s27 rfl rfl rfl (fun k => g27 _ _ _ _) (F.bindsN fun _ _ _ _ _ _ us hl => match us, hl with | [_, _], _ => rfl)
theorem wd (X : K.In base) (G : base.Ns mainGlobals mg) (c : He.SaysD fa fn K) (e : exB made gls fr cds K = true) : Wld T Q w K mg base := wld_of X G e fun _ => by
  obtain ⟨fd, F⟩ := c.def_ 28 (d := di) rfl
  obtain ⟨ds, d1, d2⟩ := F.binds1 (ps := ["self", "value"]) 1 0 (by intro h; cases h) rfl (fun _ _ _ _ _ _ _ us its h1 h2 => match us, its, h1, h2 with | [_], [_], _, _ => ⟨_, rfl, rfl⟩)
  obtain ⟨d0, d3, d4⟩ := F.binds1 (ps := ["self", "value"]) 2 1 (by intro h; cases h) rfl (fun _ _ _ _ _ _ _ us its h1 h2 => match us, its, h1, h2 with | [_, _], [_], _, _ => ⟨_, rfl, rfl⟩)
  have z : d0 = [] := by cases d3; rfl
  rw [z] at d4
  exact ⟨fd, init_ok F (C8.fnScope_by (by decide +kernel)) (by rfl) (by rfl), d4, ds, d1, d2⟩
theorem goods (X : K.In base) (G : base.Ns mainGlobals mg) (c : He.SaysD fa fn K) (wd : Wld T Q w K mg base) (TB : ∀ p ∈ tf.map (He.cT K), GxR.TabB base mg p.1 p.2) : AllI (Good T Q w K mg base (fun P => ∃ p ∈ tf.map (He.cT K), P = p.2) P WN) 0 nms :=
  ⟨k0 wd X G c, k1 wd X G c, k2 wd X G c, k3 wd X G c, k4 wd X G c, k5 wd X G c, k6 wd X G c, k7 wd X G c, k8 wd X G c, k9 wd X G c, k10 wd X G c, k11 wd X G c, k12 wd X G c, k13 wd X G c, k14 wd X G c, k15 wd X G c, k16 wd X G c, k17 wd X G c, k18 wd X G c, k19 wd X G c, k20 wd X G c, k21 wd X G c, k22 wd X G c, k23 wd X G c, k24 wd X G c, k25 wd X G c, trivial⟩
theorem goodsM (X : K.In base) (G : base.Ns mainGlobals mg) (c : He.SaysD fa fn K) (wd : Wld T Q w K mg base) : AllI (GoodM T Q w K mg base tbs P WN) 26 (mtsOf cds) :=
  ⟨k26 wd X G c, k27 wd X G c, trivial⟩
end
abbrev R : PySem.W.OpenRow := PySem.W.OpenLaw.row PySem.Challenge.rw_trulymade_k07_bodies_there_and_back
abbrev hk : PySem.W.Hook := He.hookX 5 fa fn [] tf (exB made gls fr cds)
def ob (s : PySem.W.SharedT) : He.AlX := He.obsX 5 fa fn [] tf (exB made gls fr cds) (HandSHeadRun.getT s)
theorem ob_eq (s : PySem.W.SharedT) : ob s = hk.obs s.abs := He.obsX_eq (HandSHeadRun.getT_eq s)
def loose : List PySem.Str := (["MadeError", "BadRow", "BadSign", "BadRule", "SIGNS", "is_integer", "is_sign", "is_row", "checked_row", "checked_sign", "MOST_ITEMS", "MOST_PUT", "item_at", "items_at", "word_at", "rule_at", "Rules", "is_item", "is_rule", "signs_of_item", "signs_of_rule", "body_for", "_law_tape", "_law_pick"] : List PySem.Str) ++ (["_law_sign", "_law_signs", "_law_a_item", "_law_a_rule", "_law_rules", "_law_spell", "_law_tail", "_law_turned", "_law_read_well"] : List PySem.Str)
theorem head_run (w : World) : HandSHeadRun.RunEq R (PySem.W.view R.prog [37]) hk ob 40000 loose w := by
  intro os
  kernel_rfl
end K07
open PySem PySem.W PySem.Calls PyProof.Rows
theorem PySem.Challenge.cw_trulymade_k07_bodies_there_and_back_holds : PySem.Challenge.rw_trulymade_k07_bodies_there_and_back.Holds := by
  w_on; o_law
  refine HandSHeadRun.head_any (r := OpenLaw.row PySem.Challenge.rw_trulymade_k07_bodies_there_and_back) (q := view (OpenLaw.row PySem.Challenge.rw_trulymade_k07_bodies_there_and_back).prog [37]) (H := K07.hk) (ob := K07.ob) (M := 40000) (loose := K07.loose) (d := HandSHeadRun.topDef (OpenLaw.row PySem.Challenge.rw_trulymade_k07_bodies_there_and_back).prog 37) (kwd := []) K07.ob_eq
    (by kernel_rfl) (fun s => by kernel_rfl) K07.head_run (by kernel_rfl) (by kernel_rfl) (by kernel_rfl) (by rfl) (by first | assumption | decide +kernel) (by decide +kernel) ⟨rfl, rfl, rfl, rfl, rfl, by decide +kernel⟩ ?hw ?hc
  case hw => w_witness2
  case hc =>
    refine VM.walk_of (l := PySem.Challenge.rw_trulymade_k07_bodies_there_and_back) (n := 63) (lev := 28) (x := "script") rfl (by decide) (by kernel_rfl) ⟨rfl, by decide, by decide⟩ ?F
    intro w mg fa h Y G hmg0
    obtain ⟨K, KX, c⟩ := Y
    have hmg : mg ("law" : PySem.Str) = some (.ref fa) := by
      have e : (HandSHeadRun.topDef (OpenLaw.row PySem.Challenge.rw_trulymade_k07_bodies_there_and_back).prog 37).name = ("law" : PySem.Str) := by kernel_rfl
      rw [← e]
      exact hmg0
    have cd := c.t.d
    obtain ⟨fd, F⟩ := cd.def_ 25 (d := K07.dd "law" 37) rfl
    have e := hmg.symm.trans (He.glo_ok KX G (cd.fact 25 (f := .glo "law") rfl))
    cases e
    refine ⟨K, KX, VM.law_at (fd := fd) (cs := K07.tf.map (He.cT K)) (Pg := K07.P) (Wn := K07.WN) (k := 12) (f := 25) (fun c => K07.made[c]?) (fun p hp => ?_) (fun p hp => ?_) (fun h2 kin p hp => ?_) (fun s u => ?_) K07.math fun base b1 b2 b3 => ?_⟩
    · obtain ⟨d, hd, rfl⟩ := List.mem_map.mp hp
      exact c.empty d hd
    · obtain ⟨d, hd, rfl⟩ := List.mem_map.mp hp
      exact c.out d hd
    · obtain ⟨d, hd, rfl⟩ := List.mem_map.mp hp
      exact PySem.W.codeHd_of_K kin (c.hd d hd)
    · exact L2.FunD.bindsA (ps := ["script"]) F (fun _ _ _ _ _ _ us hl => match us, hl with | [_], _ => rfl) s [u] rfl
    · have wd := K07.wd (Q := (PySem.Challenge.rw_trulymade_k07_bodies_there_and_back).prog) (w := w) b1 b2 cd c.more
      have gs := K07.goods b1 b2 cd wd b3
      refine VM.law_ok (fun _ => rfl) (fun _ => rfl) gs (K07.goodsM b1 b2 cd wd) (f := 25) 12 fun AO => ?_
      exact VM.def_ok wd AO F K07.s25 rfl rfl rfl (by decide) (K07.g25 _ _ _ _)


