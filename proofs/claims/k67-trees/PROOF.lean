import PyProof.Rows.All
import Wide.All
import OpenK.AllK
import Wide.FinOn
import HandS.ForMost
import HandS.Flow
import HandS.Style
import HandS.TupAny
import HandS.IsInst
import HandS.Walk
import HandS.Deep
import HandS.Conv
import HandS.Rev
import HandS.Zip
import HandS.NoneIn
import HandS.Sort
import HandS.SortKw
import HandS.TupMul
import HandS.TupSets
import HandS.SortRule
import HandS.SortInts
import KE.KStateDown
import HandS.Head0
import HandS.Head1
import HandS.Head2
import HandS.HeadEnd
import HandS.HeadHook1
import PySem.Challenge.RW_sealskept_k67_whole_trees_split
set_option Elab.async false
set_option linter.all false
set_option maxRecDepth 100000
set_option maxHeartbeats 4000000
set_option autoImplicit false
namespace SK
open PySem PySem.Spec PyProof.Rows L2

/-! ### data without a heap -/
inductive D where
  | non | bl (b : Bool) | int (i : Int) | str (s : Str)
  | tup (xs : List D) | lst (xs : List D) | scr (ns : List Int)

def D.isM : D → Bool
  | .lst _ => true
  | _ => false
def D.scal : D → Bool
  | .non => true
  | .bl _ => true
  | .int _ => true
  | .str _ => true
  | _ => false

mutual
inductive Rep (K : PySem.W.Frag) (F : Hp) : V → D → Prop
  | non : Rep K F .non .non
  | bl (b : Bool) : Rep K F (.bl b) (.bl b)
  | int (i : Int) : Rep K F (.int i) (.int i)
  | str (x : Str) : Rep K F (.str x) (.str x)
  | scr {a : Addr} {ns : List Int} : SqL K F a (ns.map V.int) → Rep K F (.ref a) (.scr ns)
  | ob {a : Addr} {o : HO} {d : D} : F a = some o → ObR K F o d → Rep K F (.ref a) d
inductive ObR (K : PySem.W.Frag) (F : Hp) : HO → D → Prop
  | tup {vs : List V} {ds : List D} : RepL K F vs ds → ObR K F (.tup vs) (.tup ds)
  | lst {vs : List V} {ds : List D} : RepL K F vs ds → ObR K F (.lst vs) (.lst ds)
inductive RepL (K : PySem.W.Frag) (F : Hp) : List V → List D → Prop
  | nil : RepL K F [] []
  | cons {v : V} {vs : List V} {d : D} {ds : List D} : Rep K F v d → RepL K F vs ds → RepL K F (v :: vs) (d :: ds)
end

section
variable {K : PySem.W.Frag} {F F' H H' : Hp}
mutual
theorem Rep.mono (s : Same F F') : ∀ {v : V} {d : D}, Rep K F v d → Rep K F' v d
  | _, _, .non => .non
  | _, _, .bl b => .bl b
  | _, _, .int i => .int i
  | _, _, .str x => .str x
  | _, _, .scr h => .scr (s.seq h)
  | _, _, .ob h r => .ob (s _ _ h) (ObR.mono s r)
theorem ObR.mono (s : Same F F') : ∀ {o : HO} {d : D}, ObR K F o d → ObR K F' o d
  | _, _, .tup r => .tup (RepL.mono s r)
  | _, _, .lst r => .lst (RepL.mono s r)
theorem RepL.mono (s : Same F F') : ∀ {vs : List V} {ds : List D}, RepL K F vs ds → RepL K F' vs ds
  | _, _, .nil => .nil
  | _, _, .cons h r => .cons (Rep.mono s h) (RepL.mono s r)
end
theorem RepL.length : ∀ {vs : List V} {ds : List D}, RepL K F vs ds → vs.length = ds.length
  | _, _, .nil => rfl
  | _, _, .cons _ r => congrArg (· + 1) (RepL.length r)
theorem RepL.append : ∀ {vs ws : List V} {ds es : List D}, RepL K F vs ds → RepL K F ws es → RepL K F (vs ++ ws) (ds ++ es)
  | _, _, _, _, .nil, s => s
  | _, _, _, _, .cons h r, s => .cons h (RepL.append r s)
theorem RepL.get : ∀ {vs : List V} {ds : List D} {i : Nat} {d : D}, RepL K F vs ds → ds[i]? = some d → ∃ v, vs[i]? = some v ∧ Rep K F v d
  | _, _, _, _, .nil, e => by simp at e
  | _, _, 0, _, .cons h _, e => by simp at e; subst e; exact ⟨_, rfl, h⟩
  | _, _, i + 1, d, .cons _ r, e => by
    obtain ⟨v, h1, h2⟩ := RepL.get (i := i) (d := d) r (by simpa using e)
    exact ⟨v, by simpa using h1, h2⟩
theorem RepL.at' : ∀ {vs : List V} {ds : List D} {i : Nat} {v : V}, RepL K F vs ds → vs[i]? = some v → ∃ d, ds[i]? = some d ∧ Rep K F v d
  | _, _, _, _, .nil, e => by simp at e
  | _, _, 0, _, .cons h _, e => by simp at e; subst e; exact ⟨_, rfl, h⟩
  | _, _, i + 1, d, .cons _ r, e => by
    obtain ⟨v, h1, h2⟩ := RepL.at' (i := i) (v := d) r (by simpa using e)
    exact ⟨v, by simpa using h1, h2⟩
theorem RepL.set : ∀ {vs : List V} {ds : List D} {v : V} {d : D} (i : Nat), RepL K F vs ds → Rep K F v d → RepL K F (vs.set i v) (ds.set i d)
  | _, _, _, _, _, .nil, _ => .nil
  | _, _, _, _, 0, .cons _ r, h => .cons h r
  | _, _, _, _, i + 1, .cons q r, h => .cons q (RepL.set i r h)
theorem RepL.take : ∀ {vs : List V} {ds : List D} (n : Nat), RepL K F vs ds → RepL K F (vs.take n) (ds.take n)
  | _, _, 0, _ => .nil
  | _, _, _ + 1, .nil => .nil
  | _, _, n + 1, .cons h r => .cons h (RepL.take n r)
theorem RepL.drop : ∀ {vs : List V} {ds : List D} (n : Nat), RepL K F vs ds → RepL K F (vs.drop n) (ds.drop n)
  | _, _, 0, r => r
  | _, _, _ + 1, .nil => .nil
  | _, _, n + 1, .cons _ r => RepL.drop n r
theorem RepL.reverse {vs : List V} {ds : List D} (r : RepL K F vs ds) : RepL K F vs.reverse ds.reverse := by
  induction vs generalizing ds with
  | nil => cases r; exact .nil
  | cons v vs ih =>
    cases r with
    | cons h r =>
      rw [List.reverse_cons, List.reverse_cons]
      exact (ih r).append (.cons h .nil)
theorem RepL.flatRep {vs : List V} {ds : List D} (r : RepL K F vs ds) : ∀ n : Nat, RepL K F (List.replicate n vs).flatten (List.replicate n ds).flatten
  | 0 => .nil
  | n + 1 => by
    rw [List.replicate_succ, List.replicate_succ, List.flatten_cons, List.flatten_cons]
    exact r.append (RepL.flatRep r n)

theorem same_upd {H : Hp} {p : Addr} {o : HO} (h : H p = none) : Same H (upd H p o) := fun b x e => by
  rw [upd_ne (ne_of_none e h)]
  exact e

/-- the heap grows: F, what is known never to change, within H, what is tracked -/
structure Ext (F H F' H' : Hp) : Prop where
  f : Same F F'
  h : Same H H'
  fh : Same F' H'
  new : ∀ b o, F' b = some o → F b = none → H b = none
theorem Ext.refl (s : Same F H) : Ext F H F H := ⟨.refl _, .refl _, s, fun b o e n => by rw [n] at e; cases e⟩
theorem Ext.trans {F2 H2 : Hp} (a : Ext F H F' H') (b : Ext F' H' F2 H2) : Ext F H F2 H2 := by
  refine ⟨a.f.trans b.f, a.h.trans b.h, b.fh, fun c o e n => ?_⟩
  cases q : F' c with
  | none => exact a.h.free (b.new c o e q)
  | some u => exact a.new c u q n
/-- a new object, known never to change -/
theorem Ext.laid (s : Same F H) {p : Addr} {o : HO} (n : H p = none) : Ext F H (upd F p o) (upd H p o) := by
  refine ⟨same_upd (s.free n), same_upd n, fun b u e => ?_, fun b u e nb => ?_⟩
  · by_cases hb : b = p
    · subst hb; rw [upd_same] at e ⊢; exact e
    · rw [upd_ne hb] at e ⊢; exact s _ _ e
  · by_cases hb : b = p
    · subst hb; exact n
    · rw [upd_ne hb, nb] at e; cases e
/-- a new object that may change -/
theorem Ext.own (s : Same F H) {p : Addr} {o : HO} (n : H p = none) : Ext F H F (upd H p o) :=
  ⟨.refl _, same_upd n, s.trans (same_upd n), fun b u e nb => by rw [nb] at e; cases e⟩
/-- an object that might have changed is known not to change from here on -/
theorem Ext.freeze (s : Same F H) {p : Addr} {o : HO} (h : H p = some o) (n : F p = none) : Same F (upd F p o) ∧ Same (upd F p o) H := by
  refine ⟨same_upd n, fun b u e => ?_⟩
  by_cases hb : b = p
  · subst hb; rw [upd_same] at e; rw [← e]; exact h
  · rw [upd_ne hb] at e; exact s _ _ e

/-- a value that is read: known, or a list of one's own -/
def RepB (K : PySem.W.Frag) (F H : Hp) (v : V) (d : D) : Prop := Rep K F v d ∨ (d.isM = true ∧ ∃ a o, v = .ref a ∧ H a = some o ∧ ObR K F o d)
theorem RepB.ext (e : Ext F H F' H') {v : V} {d : D} : RepB K F H v d → RepB K F' H' v d
  | .inl r => .inl (r.mono e.f)
  | .inr ⟨m, a, o, h1, h2, h3⟩ => .inr ⟨m, a, o, h1, e.h _ _ h2, h3.mono e.f⟩
theorem RepB.int {v : V} {i : Int} (r : RepB K F H v (.int i)) : v = .int i := by
  rcases r with r | ⟨m, _⟩
  · cases r with
    | int => rfl
    | ob _ q => cases q
  · cases m
theorem RepB.bl {v : V} {i : Bool} (r : RepB K F H v (.bl i)) : v = .bl i := by
  rcases r with r | ⟨m, _⟩
  · cases r with
    | bl => rfl
    | ob _ q => cases q
  · cases m
theorem RepB.str {v : V} {i : Str} (r : RepB K F H v (.str i)) : v = .str i := by
  rcases r with r | ⟨m, _⟩
  · cases r with
    | str => rfl
    | ob _ q => cases q
  · cases m
theorem RepB.non {v : V} (r : RepB K F H v .non) : v = .non := by
  rcases r with r | ⟨m, _⟩
  · cases r with
    | non => rfl
    | ob _ q => cases q
  · cases m
theorem Rep.tupI {v : V} {ds : List D} (r : Rep K F v (.tup ds)) : ∃ a vs, v = .ref a ∧ F a = some (.tup vs) ∧ RepL K F vs ds := by
  cases r with
  | ob h q => cases q with | tup q => exact ⟨_, _, rfl, h, q⟩
theorem Rep.lstI {v : V} {ds : List D} (r : Rep K F v (.lst ds)) : ∃ a vs, v = .ref a ∧ F a = some (.lst vs) ∧ RepL K F vs ds := by
  cases r with
  | ob h q => cases q with | lst q => exact ⟨_, _, rfl, h, q⟩
theorem RepB.full {v : V} {d : D} (r : RepB K F H v d) (h : d.isM = false) : Rep K F v d := by
  rcases r with r | ⟨m, _⟩
  · exact r
  · rw [h] at m; cases m
theorem RepB.tup {v : V} {ds : List D} (r : RepB K F H v (.tup ds)) : ∃ a vs, v = .ref a ∧ F a = some (.tup vs) ∧ RepL K F vs ds := (r.full rfl).tupI
theorem RepB.lst (s : Same F H) {v : V} {ds : List D} (r : RepB K F H v (.lst ds)) : ∃ a vs, v = .ref a ∧ H a = some (.lst vs) ∧ RepL K F vs ds := by
  rcases r with r | ⟨m, a, o, rfl, h, q⟩
  · obtain ⟨a, vs, rfl, h, q⟩ := r.lstI
    exact ⟨a, vs, rfl, s _ _ h, q⟩
  · cases q with | lst q => exact ⟨a, _, rfl, h, q⟩
theorem Rep.scrI {v : V} {ns : List Int} (r : Rep K F v (.scr ns)) : ∃ a, v = .ref a ∧ SqL K F a (ns.map V.int) := by
  cases r with
  | scr h => exact ⟨_, rfl, h⟩
  | ob _ q => cases q
theorem Rep.any {v : V} {d : D} (h : d.scal = true) (r : Rep K F v d) : Rep K F' v d := by
  cases r with
  | non => exact .non
  | bl b => exact .bl b
  | int i => exact .int i
  | str x => exact .str x
  | scr _ => cases h
  | ob _ q => cases q <;> cases h
end

/-! ### the slots -/
inductive Slot where
  | emp | val (d : D) | own (d : D)
abbrev En := List Slot

def SlotOk (K : PySem.W.Frag) (F H H0 : Hp) (o : Option V) : Slot → Prop
  | .emp => True
  | .val d => ∃ v, o = some v ∧ Rep K F v d
  | .own d => d.isM = true ∧ ∃ a ob, o = some (.ref a) ∧ F a = none ∧ H0 a = none ∧ H a = some ob ∧ ObR K F ob d

/-- what the slots and the heap hold: H0 at the def's entry, F never to change, H now -/
structure Rel (K : PySem.W.Frag) (H0 F H : Hp) (σ : L2.St) (Γ : En) : Prop where
  h0 : Same H0 H
  fh : Same F H
  len : σ.length = Γ.length
  sl : ∀ (i : Nat) (s : Slot), Γ[i]? = some s → ∃ o, σ[i]? = some o ∧ SlotOk K F H H0 o s
  sep : ∀ (i j : Nat) (d e : D) (a : Addr), Γ[i]? = some (.own d) → Γ[j]? = some (.own e) → σ[i]? = some (some (.ref a)) → σ[j]? = some (some (.ref a)) → i = j

section
variable {K : PySem.W.Frag} {F F' H H' H0 : Hp} {σ : L2.St} {Γ : En}
theorem SlotOk.ext (e : Ext F H F' H') {o : Option V} {s : Slot} (h : SlotOk K F H H0 o s) : SlotOk K F' H' H0 o s := by
  cases s with
  | emp => trivial
  | val d => obtain ⟨v, h1, h2⟩ := h; exact ⟨v, h1, h2.mono e.f⟩
  | own d =>
    obtain ⟨m, a, ob, h1, h2, h3, h4, h5⟩ := h
    refine ⟨m, a, ob, h1, ?_, h3, e.h _ _ h4, h5.mono e.f⟩
    cases q : F' a with
    | none => rfl
    | some u => have := e.new a u q h2; rw [h4] at this; cases this
theorem Rel.ext (R : Rel K H0 F H σ Γ) (e : Ext F H F' H') : Rel K H0 F' H' σ Γ :=
  ⟨R.h0.trans e.h, e.fh, R.len, fun i s hi => by obtain ⟨o, h1, h2⟩ := R.sl i s hi; exact ⟨o, h1, h2.ext e⟩, R.sep⟩
theorem set_get {α : Type} {l : List α} {i j : Nat} {x y : α} (h : (l.set i x)[j]? = some y) : (i = j ∧ y = x ∧ i < l.length) ∨ (i ≠ j ∧ l[j]? = some y) := by
  rw [List.getElem?_set] at h
  by_cases e : i = j
  · subst e
    rw [if_pos rfl] at h
    by_cases q : i < l.length
    · rw [if_pos q] at h; cases h; exact .inl ⟨rfl, rfl, q⟩
    · rw [if_neg q] at h; cases h
  · rw [if_neg e] at h; exact .inr ⟨e, h⟩
theorem get_set {α : Type} {l : List α} {i : Nat} {x : α} (h : i < l.length) : (l.set i x)[i]? = some x := by
  rw [List.getElem?_set, if_pos rfl, if_pos h]
theorem get_set_ne {α : Type} {l : List α} {i j : Nat} {x : α} (h : i ≠ j) : (l.set i x)[j]? = l[j]? := by
  rw [List.getElem?_set, if_neg h]
theorem Rel.setVal (R : Rel K H0 F H σ Γ) (i : Nat) {v : V} {d : D} (r : Rep K F v d) : Rel K H0 F H (σ.set i (some v)) (Γ.set i (.val d)) := by
  refine ⟨R.h0, R.fh, by rw [List.length_set, List.length_set]; exact R.len, fun j s hj => ?_, fun j k d1 d2 a h1 h2 h3 h4 => ?_⟩
  · rcases set_get hj with ⟨rfl, rfl, hl⟩ | ⟨hne, hj⟩
    · exact ⟨some v, get_set (by rw [R.len]; exact hl), v, rfl, r⟩
    · obtain ⟨o, q1, q2⟩ := R.sl j s hj
      exact ⟨o, by rw [get_set_ne hne]; exact q1, q2⟩
  · rcases set_get h1 with ⟨_, e, _⟩ | ⟨n1, h1⟩
    · cases e
    · rcases set_get h2 with ⟨_, e, _⟩ | ⟨n2, h2⟩
      · cases e
      · rw [get_set_ne n1] at h3; rw [get_set_ne n2] at h4
        exact R.sep j k d1 d2 a h1 h2 h3 h4
/-- a new object of one's own in a slot -/
theorem Rel.setOwn (R : Rel K H0 F H σ Γ) (i : Nat) {a : Addr} {o : HO} {d : D} (m : d.isM = true) (fa : F a = none) (h0 : H0 a = none) (ha : H a = some o) (r : ObR K F o d)
    (n : ∀ (j : Nat) (e : D), Γ[j]? = some (.own e) → σ[j]? ≠ some (some (.ref a))) : Rel K H0 F H (σ.set i (some (.ref a))) (Γ.set i (.own d)) := by
  refine ⟨R.h0, R.fh, by rw [List.length_set, List.length_set]; exact R.len, fun j s hj => ?_, fun j k d1 d2 b h1 h2 h3 h4 => ?_⟩
  · rcases set_get hj with ⟨rfl, rfl, hl⟩ | ⟨hne, hj⟩
    · exact ⟨some (.ref a), get_set (by rw [R.len]; exact hl), m, a, o, rfl, fa, h0, ha, r⟩
    · obtain ⟨o, q1, q2⟩ := R.sl j s hj
      exact ⟨o, by rw [get_set_ne hne]; exact q1, q2⟩
  · rcases set_get h1 with ⟨e1, _, l1⟩ | ⟨n1, h1⟩
    · rcases set_get h2 with ⟨e2, _, _⟩ | ⟨n2, h2⟩
      · exact e1.symm.trans e2
      · subst e1
        rw [get_set (by rw [R.len]; exact l1)] at h3
        rw [get_set_ne n2] at h4
        injection h3 with h3; injection h3 with h3; injection h3 with h3
        subst h3
        exact absurd h4 (n k d2 h2)
    · rcases set_get h2 with ⟨e2, _, l2⟩ | ⟨n2, h2⟩
      · subst e2
        rw [get_set (by rw [R.len]; exact l2)] at h4
        rw [get_set_ne n1] at h3
        injection h4 with h4; injection h4 with h4; injection h4 with h4
        subst h4
        exact absurd h3 (n j d1 h1)
      · rw [get_set_ne n1] at h3; rw [get_set_ne n2] at h4
        exact R.sep j k d1 d2 b h1 h2 h3 h4
/-- an object that no slot has as its own is laid or changed -/
theorem Rel.updOff (R : Rel K H0 F H σ Γ) {a : Addr} {o : HO} (fa : F a = none) (h0 : H0 a = none) (n : ∀ (j : Nat) (e : D), Γ[j]? = some (.own e) → σ[j]? ≠ some (some (.ref a))) : Rel K H0 F (upd H a o) σ Γ := by
  have sf : ∀ G : Hp, G a = none → Same G H → Same G (upd H a o) := fun G g s b u e => by
    rw [upd_ne (ne_of_none e g)]; exact s _ _ e
  refine ⟨sf _ h0 R.h0, sf _ fa R.fh, R.len, fun i s hi => ?_, R.sep⟩
  obtain ⟨q, h1, h2⟩ := R.sl i s hi
  refine ⟨q, h1, ?_⟩
  cases s with
  | emp => trivial
  | val d => exact h2
  | own d =>
    obtain ⟨m, b, ob, e1, e2, e3, e4, e5⟩ := h2
    refine ⟨m, b, ob, e1, e2, e3, ?_, e5⟩
    rw [upd_ne (fun z => n i d hi (by rw [h1, e1, z]))]
    exact e4
/-- an object of a slot's own is changed -/
theorem Rel.updOwn (R : Rel K H0 F H σ Γ) {i : Nat} {a : Addr} {o : HO} {d d' : D} (hi : Γ[i]? = some (.own d)) (hs : σ[i]? = some (some (.ref a))) (m : d'.isM = true) (r : ObR K F o d') :
    Rel K H0 F (upd H a o) σ (Γ.set i (.own d')) := by
  obtain ⟨q, h1, m0, b, ob, e1, e2, e3, e4, e5⟩ := R.sl i _ hi
  rw [hs] at h1
  injection h1 with h1
  subst h1
  injection e1 with e1
  injection e1 with e1
  subst e1
  have sf : ∀ G : Hp, G a = none → Same G H → Same G (upd H a o) := fun G g s b u e => by
    rw [upd_ne (ne_of_none e g)]; exact s _ _ e
  refine ⟨sf _ e3 R.h0, sf _ e2 R.fh, by rw [List.length_set]; exact R.len, fun j s hj => ?_, fun j k d1 d2 b h1 h2 h3 h4 => ?_⟩
  · rcases set_get hj with ⟨rfl, rfl, hl⟩ | ⟨hne, hj⟩
    · exact ⟨_, hs, m, a, o, rfl, e2, e3, upd_same, r⟩
    · obtain ⟨u, q1, q2⟩ := R.sl j s hj
      refine ⟨u, q1, ?_⟩
      cases s with
      | emp => trivial
      | val d => exact q2
      | own d1 =>
        obtain ⟨m1, b1, ob1, f1, f2, f3, f4, f5⟩ := q2
        refine ⟨m1, b1, ob1, f1, f2, f3, ?_, f5⟩
        rw [upd_ne (fun z => hne (R.sep i j d d1 a hi hj hs (by rw [q1, f1, z])))]
        exact f4
  · have g : ∀ {x : Nat} {e : D}, (Γ.set i (.own d'))[x]? = some (.own e) → ∃ e', Γ[x]? = some (.own e') := fun {x e} h => by
      rcases set_get h with ⟨rfl, _, _⟩ | ⟨_, h⟩
      · exact ⟨d, hi⟩
      · exact ⟨_, h⟩
    obtain ⟨e1', g1⟩ := g h1
    obtain ⟨e2', g2⟩ := g h2
    exact R.sep j k _ _ b g1 g2 h3 h4
theorem Rel.ownAt (R : Rel K H0 F H σ Γ) {i : Nat} {d : D} (hi : Γ[i]? = some (.own d)) : d.isM = true ∧ ∃ a ob, σ[i]? = some (some (.ref a)) ∧ F a = none ∧ H0 a = none ∧ H a = some ob ∧ ObR K F ob d := by
  obtain ⟨q, h1, m0, b, ob, e1, e2, e3, e4, e5⟩ := R.sl i _ hi
  exact ⟨m0, b, ob, by rw [h1, e1], e2, e3, e4, e5⟩
theorem Rel.valAt (R : Rel K H0 F H σ Γ) {i : Nat} {d : D} (hi : Γ[i]? = some (.val d)) : ∃ v, σ[i]? = some (some v) ∧ Rep K F v d := by
  obtain ⟨q, h1, v, e1, e2⟩ := R.sl i _ hi
  exact ⟨v, by rw [h1, e1], e2⟩
theorem Rel.newOff (R : Rel K H0 F H σ Γ) {a : Addr} (n : H a = none) : ∀ (j : Nat) (e : D), Γ[j]? = some (.own e) → σ[j]? ≠ some (some (.ref a)) := fun j e hj hs => by
  obtain ⟨_, b, ob, h1, _, _, h4, _⟩ := R.ownAt hj
  rw [h1] at hs
  injection hs with hs; injection hs with hs; injection hs with hs
  subst hs
  rw [n] at h4; cases h4
/-- what a slot has as its own is given up -/
def frz1 (i : Nat) (Γ : En) : En := match Γ[i]? with
  | some (.own d) => Γ.set i (.val d)
  | _ => Γ
theorem Rel.freeze (R : Rel K H0 F H σ Γ) (i : Nat) : ∃ F', Same F F' ∧ (∀ b o, F' b = some o → F b = none → H0 b = none) ∧ Rel K H0 F' H σ (frz1 i Γ) := by
  unfold frz1
  split
  · rename_i d hi
    obtain ⟨m0, a, ob, h1, h2, h3, h4, h5⟩ := R.ownAt hi
    obtain ⟨s1, s2⟩ := Ext.freeze R.fh h4 h2
    refine ⟨upd F a ob, s1, fun b o e n => ?_, R.h0, s2, by rw [List.length_set]; exact R.len, fun j s hj => ?_, fun j k d1 d2 b g1 g2 g3 g4 => ?_⟩
    · by_cases hb : b = a
      · subst hb; exact h3
      · rw [upd_ne hb, n] at e; cases e
    · rcases set_get hj with ⟨rfl, rfl, hl⟩ | ⟨hne, hj⟩
      · exact ⟨_, h1, _, rfl, .ob upd_same (h5.mono s1)⟩
      · obtain ⟨u, q1, q2⟩ := R.sl j s hj
        refine ⟨u, q1, ?_⟩
        cases s with
        | emp => trivial
        | val d => obtain ⟨v, z1, z2⟩ := q2; exact ⟨v, z1, z2.mono s1⟩
        | own d1 =>
          obtain ⟨m1, b1, ob1, f1, f2, f3, f4, f5⟩ := q2
          refine ⟨m1, b1, ob1, f1, ?_, f3, f4, f5.mono s1⟩
          rw [upd_ne (fun z => hne (R.sep i j d d1 a hi hj h1 (by rw [q1, f1, z])))]
          exact f2
    · have g : ∀ {x : Nat} {e : D}, (Γ.set i (.val d))[x]? = some (.own e) → Γ[x]? = some (.own e) := fun {x e} h => by
        rcases set_get h with ⟨_, h, _⟩ | ⟨_, h⟩
        · cases h
        · exact h
      exact R.sep j k _ _ b (g g1) (g g2) g3 g4
  · exact ⟨F, .refl _, fun b o e n => (by rw [n] at e; cases e), R⟩
end
end SK

set_option Elab.async false
set_option linter.all false
set_option maxRecDepth 100000
set_option maxHeartbeats 4000000
set_option autoImplicit false
namespace SK
open PySem PySem.Spec PyProof.Rows L2

/-! ### readings -/
abbrev ME := En → Option D
abbrev MA := En → Option (List D)
/-- a value known never to change -/
def rdE (K : PySem.W.Frag) (m : ME) : TE := fun σ H Q => ∃ H0 F Γ d, Rel K H0 F H σ Γ ∧ m Γ = some d ∧ ∀ v H' F', Ext F H F' H' → Rep K F' v d → Q v H'
/-- a value that is read at once -/
def rdB (K : PySem.W.Frag) (m : ME) : TE := fun σ H Q => ∃ H0 F Γ d, Rel K H0 F H σ Γ ∧ m Γ = some d ∧ ∀ v H' F', Ext F H F' H' → RepB K F' H' v d → Q v H'
/-- a new object of one's own -/
def rdN (K : PySem.W.Frag) (m : ME) : TE := fun σ H Q => ∃ H0 F Γ d, Rel K H0 F H σ Γ ∧ m Γ = some d ∧ ∀ a o H' F', Ext F H F' H' → H a = none → F' a = none → H' a = some o → d.isM = true → ObR K F' o d → Q (.ref a) H'
/-- arguments -/
def rdA (K : PySem.W.Frag) (m : MA) : TA := fun σ H Q => ∃ H0 F Γ ds, Rel K H0 F H σ Γ ∧ m Γ = some ds ∧ ∀ vs H' F', Ext F H F' H' → RepL K F' vs ds → Q vs H'
inductive RepBL (K : PySem.W.Frag) (F H : Hp) : List V → List D → Prop
  | nil : RepBL K F H [] []
  | cons {v : V} {vs : List V} {d : D} {ds : List D} : RepB K F H v d → RepBL K F H vs ds → RepBL K F H (v :: vs) (d :: ds)
def rdAB (K : PySem.W.Frag) (m : MA) : TA := fun σ H Q => ∃ H0 F Γ ds, Rel K H0 F H σ Γ ∧ m Γ = some ds ∧ ∀ vs H' F', Ext F H F' H' → RepBL K F' H' vs ds → Q vs H'
/-- a test -/
def rdT (K : PySem.W.Frag) (m : En → Option Bool) : TT := fun σ H Q => ∃ H0 F Γ b, Rel K H0 F H σ Γ ∧ m Γ = some b ∧ ∀ H' F', Ext F H F' H' → Q b H'

section
variable {X : Cx} {e : Expr}
theorem _root_.L2.PE.wk {t t' : TE} (h : PE X e t) (w : ∀ σ H Q, t' σ H Q → t σ H Q) : PE X e t' := ⟨fun pins s σ H Q I q => h.run pins s σ H Q I (w _ _ _ q)⟩
theorem _root_.L2.PT.wk {t t' : TT} (h : PT X e t) (w : ∀ σ H Q, t' σ H Q → t σ H Q) : PT X e t' := ⟨fun pins s σ H Q I q => h.run pins s σ H Q I (w _ _ _ q)⟩
theorem _root_.L2.PW.wk {t t' : TT} (h : PW X e t) (w : ∀ σ H Q, t' σ H Q → t σ H Q) : PW X e t' := ⟨fun wh pins s σ H Q I q => h.run wh pins s σ H Q I (w _ _ _ q)⟩
theorem _root_.L2.PA.wk {es : List Expr} {t t' : TA} (h : PA X es t) (w : ∀ σ H Q, t' σ H Q → t σ H Q) : PA X es t' := ⟨fun p pins s σ H Q I q => h.run p pins s σ H Q I (w _ _ _ q)⟩
theorem toB {m : ME} (h : PE X e (rdE X.K m)) : PE X e (rdB X.K m) := h.wk fun σ H Q ⟨H0, F, Γ, d, R, z, q⟩ => ⟨H0, F, Γ, d, R, z, fun v H' F' x r => q v H' F' x (.inl r)⟩
theorem ofN {m : ME} (h : PE X e (rdN X.K m)) : PE X e (rdE X.K m) := h.wk fun σ H Q ⟨H0, F, Γ, d, R, z, q⟩ => ⟨H0, F, Γ, d, R, z, fun a o H' F' x n fa ha m r => by
  obtain ⟨s1, s2⟩ := Ext.freeze x.fh ha fa
  refine q (.ref a) H' (upd F' a o) ⟨x.f.trans s1, x.h, s2, fun b u q nb => ?_⟩ (.ob upd_same (r.mono s1))
  by_cases hb : b = a
  · subst hb; exact n
  · rw [upd_ne hb] at q; exact x.new b u q nb⟩
end

/-! ### names, constants -/
def mVar (i : Nat) : ME := fun Γ => match Γ[i]? with
  | some (.val d) => some d
  | _ => none
def mVarB (i : Nat) : ME := fun Γ => match Γ[i]? with
  | some (.val d) => some d
  | some (.own d) => some d
  | _ => none
def mC (d : D) : ME := fun _ => some d
section
variable {X : Cx} {x : Str} {pos : Pos}
theorem r_var (i : Nat) (hN : X.N[i]? = some x := by rfl) (hv : Vis X.env.scope x := by first | exact Or.inl rfl | exact Or.inr (Or.inl rfl) | exact Or.inr (Or.inr rfl)) (hd : (x == ("__debug__" : Str)) = false := by decide)
    (hcd : (x == ("__classdict__" : Str)) = false := by decide) : PE X (.Name x pos) (rdE X.K (mVar i)) :=
  PE.wk (pe_var hN hv hd hcd) fun σ H Q ⟨H0, F, Γ, d, R, z, q⟩ => by
    unfold mVar at z
    split at z
    · rename_i d' hi
      cases z
      obtain ⟨v, h1, h2⟩ := R.valAt hi
      exact ⟨v, h1, q v H F (.refl R.fh) h2⟩
    · cases z
theorem r_varB (i : Nat) (hN : X.N[i]? = some x := by rfl) (hv : Vis X.env.scope x := by first | exact Or.inl rfl | exact Or.inr (Or.inl rfl) | exact Or.inr (Or.inr rfl)) (hd : (x == ("__debug__" : Str)) = false := by decide)
    (hcd : (x == ("__classdict__" : Str)) = false := by decide) : PE X (.Name x pos) (rdB X.K (mVarB i)) :=
  PE.wk (pe_var hN hv hd hcd) fun σ H Q ⟨H0, F, Γ, d, R, z, q⟩ => by
    unfold mVarB at z
    split at z
    · rename_i d' hi
      cases z
      obtain ⟨v, h1, h2⟩ := R.valAt hi
      exact ⟨v, h1, q v H F (.refl R.fh) (.inl h2)⟩
    · rename_i d' hi
      cases z
      obtain ⟨m, a, ob, h1, h2, h3, h4, h5⟩ := R.ownAt hi
      exact ⟨.ref a, h1, q _ H F (.refl R.fh) (.inr ⟨m, a, ob, rfl, h4, h5⟩)⟩
    · cases z
theorem rC {e : Expr} {v : V} {d : D} (h : PE X e (tC v)) (r : ∀ F, Rep X.K F v d) : PE X e (rdE X.K (mC d)) :=
  PE.wk h fun σ H Q ⟨H0, F, Γ, d, R, z, q⟩ => by
    cases z
    exact q v H F (.refl R.fh) (r F)
theorem r_int {i j} : PE X (.Constant (.int i) j pos) (rdE X.K (mC (.int i))) := rC pe_int fun _ => .int i
theorem r_bl {b j} : PE X (.Constant (.bool b) j pos) (rdE X.K (mC (.bl b))) := rC pe_bl fun _ => .bl b
theorem r_non {j} : PE X (.Constant .none j pos) (rdE X.K (mC .non)) := rC pe_non fun _ => .non
theorem r_str {s j} : PE X (.Constant (.str s) j pos) (rdE X.K (mC (.str s))) := rC pe_str fun _ => .str s
/-- a module's int -/
theorem r_glob {i : Int} {t : Tok} (hg : Gl X x) (hm : X.mg x = some (.int i t)) (hd : (x == ("__debug__" : Str)) = false := by decide) : PE X (.Name x pos) (rdE X.K (mC (.int i))) :=
  rC (pe_glob hg hm (show RelV (.int i) (.int i t) from ⟨t, rfl⟩) hd) fun _ => .int i
end

/-! ### two operands -/
def mBin (f : D → D → Option D) (a b : ME) : ME := fun Γ => (a Γ).bind fun x => (b Γ).bind fun y => f x y
def mUn (f : D → Option D) (a : ME) : ME := fun Γ => (a Γ).bind f
/-- an operation by data: r, HandS's reading, holds where f says what comes -/
def Op2 (K : PySem.W.Frag) (f : D → D → Option D) (r : R2) : Prop :=
  ∀ F H x y dx dy d Q, Same F H → RepB K F H x dx → RepB K F H y dy → f dx dy = some d → (∀ v H' F', Ext F H F' H' → Rep K F' v d → Q v H') → r x y H Q
def Op2N (K : PySem.W.Frag) (f : D → D → Option D) (r : R2) : Prop :=
  ∀ F H x y dx dy d Q, Same F H → RepB K F H x dx → RepB K F H y dy → f dx dy = some d → (∀ a o H' F', Ext F H F' H' → H a = none → F' a = none → H' a = some o → d.isM = true → ObR K F' o d → Q (.ref a) H') → r x y H Q
section
variable {X : Cx} {a b c : Expr} {pos : Pos} {ma mb mc : ME} {f g : D → D → Option D} {r r' : R2}
theorem two (hf : Op2 X.K f r) {σ H Q} (h : rdE X.K (mBin f ma mb) σ H Q) : tOp r (rdB X.K ma) (rdB X.K mb) σ H Q := by
  obtain ⟨H0, F, Γ, d, R, z, q⟩ := h
  obtain ⟨dx, ex, z⟩ := Option.bind_eq_some_iff.mp z
  obtain ⟨dy, ey, z⟩ := Option.bind_eq_some_iff.mp z
  exact ⟨H0, F, Γ, dx, R, ex, fun x H1 F1 E1 rx => ⟨H0, F1, Γ, dy, R.ext E1, ey, fun y H2 F2 E2 ry => hf F2 H2 x y dx dy d Q E2.fh (rx.ext E2) ry z fun v H' F' E3 rv => q v H' F' ((E1.trans E2).trans E3) rv⟩⟩
theorem twoN (hf : Op2N X.K f r) {σ H Q} (h : rdN X.K (mBin f ma mb) σ H Q) : tOp r (rdB X.K ma) (rdB X.K mb) σ H Q := by
  obtain ⟨H0, F, Γ, d, R, z, q⟩ := h
  obtain ⟨dx, ex, z⟩ := Option.bind_eq_some_iff.mp z
  obtain ⟨dy, ey, z⟩ := Option.bind_eq_some_iff.mp z
  exact ⟨H0, F, Γ, dx, R, ex, fun x H1 F1 E1 rx => ⟨H0, F1, Γ, dy, R.ext E1, ey, fun y H2 F2 E2 ry => hf F2 H2 x y dx dy d Q E2.fh (rx.ext E2) ry z fun a o H' F' E3 n => q a o H' F' ((E1.trans E2).trans E3) ((E1.trans E2).h.free n)⟩⟩
theorem one {h : V → Hp → VK → Prop} {f : D → Option D} (hf : ∀ F H x dx d Q, Same F H → RepB X.K F H x dx → f dx = some d → (∀ v H' F', Ext F H F' H' → Rep X.K F' v d → Q v H') → h x H Q) {σ H Q} (z : rdE X.K (mUn f ma) σ H Q) :
    rdB X.K ma σ H fun x H1 => h x H1 Q := by
  obtain ⟨H0, F, Γ, d, R, z, q⟩ := z
  obtain ⟨dx, ex, z⟩ := Option.bind_eq_some_iff.mp z
  exact ⟨H0, F, Γ, dx, R, ex, fun x H1 F1 E1 rx => hf F1 H1 x dx d Q E1.fh rx z fun v H' F' E3 rv => q v H' F' (E1.trans E3) rv⟩
theorem oneN {h : V → Hp → VK → Prop} {f : D → Option D} (hf : ∀ F H x dx d Q, Same F H → RepB X.K F H x dx → f dx = some d → (∀ a o H' F', Ext F H F' H' → H a = none → F' a = none → H' a = some o → d.isM = true → ObR X.K F' o d → Q (.ref a) H') → h x H Q) {σ H Q} (z : rdN X.K (mUn f ma) σ H Q) :
    rdB X.K ma σ H fun x H1 => h x H1 Q := by
  obtain ⟨H0, F, Γ, d, R, z, q⟩ := z
  obtain ⟨dx, ex, z⟩ := Option.bind_eq_some_iff.mp z
  exact ⟨H0, F, Γ, dx, R, ex, fun x H1 F1 E1 rx => hf F1 H1 x dx d Q E1.fh rx z fun a o H' F' E3 n => q a o H' F' (E1.trans E3) (E1.h.free n)⟩

theorem r_bin {op : Operator} (ho : OpR X (binaryOp op) r) (hf : Op2 X.K f r) (ha : PE X a (rdB X.K ma)) (hb : PE X b (rdB X.K mb)) : PE X (.BinOp a op b pos) (rdE X.K (mBin f ma mb)) :=
  PE.wk (pe_op ho ha hb) fun _ _ _ h => two hf h
theorem r_binN {op : Operator} (ho : OpR X (binaryOp op) r) (hf : Op2N X.K f r) (ha : PE X a (rdB X.K ma)) (hb : PE X b (rdB X.K mb)) : PE X (.BinOp a op b pos) (rdN X.K (mBin f ma mb)) :=
  PE.wk (pe_op ho ha hb) fun _ _ _ h => twoN hf h
theorem r_cmp {op : CmpOp} (ho : OpR X (compareOp op) r) (hf : Op2 X.K f r) (ha : PE X a (rdB X.K ma)) (hb : PE X b (rdB X.K mb)) (hm : behindInMarks op b = false) : PE X (.Compare a [op] [b] pos) (rdE X.K (mBin f ma mb)) :=
  PE.wk (pe_cmpR ho ha hb hm) fun _ _ _ h => two hf h
end

/-! ### ints -/
def fI (g : Int → Int → Option D) : D → D → Option D
  | .int i, .int j => g i j
  | _, _ => none
theorem op2I {K : PySem.W.Frag} {g : Int → Int → Option D} {C : Int → Int → Prop} {h : Int → Int → Int} (hg : ∀ i j d, g i j = some d → C i j ∧ d = .int (h i j)) : Op2 K (fI g) (rI C fun i j => .int (h i j)) := by
  intro F H x y dx dy d Q s rx ry e q
  unfold fI at e
  split at e
  · obtain ⟨c, rfl⟩ := hg _ _ _ e
    exact ⟨_, _, rx.int, ry.int, c, q _ H F (.refl s) (.int _)⟩
  · cases e
theorem op2I0 {K : PySem.W.Frag} {g : Int → Int → Option D} {h : Int → Int → Int} (hg : ∀ i j d, g i j = some d → d = .int (h i j)) : Op2 K (fI g) (rI0 fun i j => .int (h i j)) := by
  intro F H x y dx dy d Q s rx ry e q
  unfold fI at e
  split at e
  · cases hg _ _ _ e
    exact ⟨_, _, rx.int, ry.int, q _ H F (.refl s) (.int _)⟩
  · cases e
theorem op2B0 {K : PySem.W.Frag} {g : Int → Int → Option D} {h : Int → Int → Bool} (hg : ∀ i j d, g i j = some d → d = .bl (h i j)) : Op2 K (fI g) (rI0 fun i j => .bl (h i j)) := by
  intro F H x y dx dy d Q s rx ry e q
  unfold fI at e
  split at e
  · cases hg _ _ _ e
    exact ⟨_, _, rx.int, ry.int, q _ H F (.refl s) (.bl _)⟩
  · cases e
theorem some_eq {α : Type} {a b : α} (h : some a = some b) : b = a := (Option.some.inj h).symm
def dSub := fI fun i j => some (.int (i - j))
def okMul (i j : Int) : Bool := decide (i.natAbs < 2 ^ 64) || decide (j.natAbs < 2 ^ 64)
def dMulI := fI fun i j => if okMul i j then some (.int (i * j)) else none
def dDiv := fI fun i j => if decide (0 < j) && decide (j < 1073741824) then some (.int (i / j)) else none
def dMod := fI fun i j => if decide (0 < j) then some (.int (i % j)) else none
def dPow := fI fun i j => if decide (0 ≤ j) && decide (j ≤ 1000000) && decide (i.natAbs < 2 ^ 64) then some (.int (i ^ j.toNat)) else none
def dShl := fI fun i j => if decide (0 ≤ j) && decide (j ≤ 1000000) && decide (i.natAbs < 2 ^ 64) then some (.int (i * 2 ^ j.toNat)) else none
def dShr := fI fun i j => if decide (0 ≤ j) then some (.int (i / 2 ^ j.toNat)) else none
def dAnd := fI fun i j => some (.int (Builtin.bitAnd i j))
def dOr := fI fun i j => some (.int (Builtin.bitOr i j))
def dXor := fI fun i j => some (.int (Builtin.bitXor i j))
def dLt := fI fun i j => some (.bl (decide (i < j)))
def dLe := fI fun i j => some (.bl (decide (i ≤ j)))
def dGt := fI fun i j => some (.bl (decide (j < i)))
def dGe := fI fun i j => some (.bl (decide (j ≤ i)))
theorem ite_some {c : Bool} {a b : D} (h : (if c then some a else none) = some b) : c = true ∧ b = a := by
  cases c
  · cases h
  · exact ⟨rfl, (Option.some.inj h).symm⟩
theorem two64 : (2 : Nat) ^ 64 = 18446744073709551616 := by decide
theorem two64i : (2 : Int) ^ 64 = 18446744073709551616 := by decide
theorem cmul_of {i j : Int} (h : okMul i j = true) : CMul i j := by
  unfold okMul at h
  unfold CMul
  rcases Bool.or_eq_true_iff.mp h with h | h
  · have h := of_decide_eq_true h
    rw [two64] at h
    exact .inl (by rw [two64i]; omega)
  · have h := of_decide_eq_true h
    rw [two64] at h
    exact .inr (by rw [two64i]; omega)
section
variable {K : PySem.W.Frag}
theorem d_sub : Op2 K dSub (rI0 fun i j => .int (i - j)) := op2I0 fun _ _ _ h => some_eq h
theorem d_mulI : Op2 K dMulI (rI CMul fun i j => .int (i * j)) := op2I fun i j d h => by
  obtain ⟨c, e⟩ := ite_some h
  exact ⟨cmul_of c, e⟩
theorem d_div : Op2 K dDiv (rI CDiv fun i j => .int (i / j)) := op2I fun i j d h => by
  obtain ⟨c, e⟩ := ite_some h
  obtain ⟨c1, c2⟩ := Bool.and_eq_true_iff.mp c
  exact ⟨⟨of_decide_eq_true c1, of_decide_eq_true c2⟩, e⟩
theorem d_mod : Op2 K dMod (rI (fun _ j => 0 < j) fun i j => .int (i % j)) := op2I fun i j d h => by
  obtain ⟨c, e⟩ := ite_some h
  exact ⟨of_decide_eq_true c, e⟩
theorem d_pow : Op2 K dPow (rI CPow fun i j => .int (i ^ j.toNat)) := op2I fun i j d h => by
  obtain ⟨c, e⟩ := ite_some h
  obtain ⟨c, c3⟩ := Bool.and_eq_true_iff.mp c
  obtain ⟨c1, c2⟩ := Bool.and_eq_true_iff.mp c
  exact ⟨⟨of_decide_eq_true c1, of_decide_eq_true c2, of_decide_eq_true c3⟩, e⟩
theorem d_shl : Op2 K dShl (rI CPow fun i j => .int (i * 2 ^ j.toNat)) := op2I fun i j d h => by
  obtain ⟨c, e⟩ := ite_some h
  obtain ⟨c, c3⟩ := Bool.and_eq_true_iff.mp c
  obtain ⟨c1, c2⟩ := Bool.and_eq_true_iff.mp c
  exact ⟨⟨of_decide_eq_true c1, of_decide_eq_true c2, of_decide_eq_true c3⟩, e⟩
theorem d_shr : Op2 K dShr (rI (fun _ j => 0 ≤ j) fun i j => .int (i / 2 ^ j.toNat)) := op2I fun i j d h => by
  obtain ⟨c, e⟩ := ite_some h
  exact ⟨of_decide_eq_true c, e⟩
theorem d_and : Op2 K dAnd (rI0 fun i j => .int (Builtin.bitAnd i j)) := op2I0 fun _ _ _ h => some_eq h
theorem d_or : Op2 K dOr (rI0 fun i j => .int (Builtin.bitOr i j)) := op2I0 fun _ _ _ h => some_eq h
theorem d_xor : Op2 K dXor (rI0 fun i j => .int (Builtin.bitXor i j)) := op2I0 fun _ _ _ h => some_eq h
theorem d_lt : Op2 K dLt (rI0 fun i j => .bl (decide (i < j))) := op2B0 fun _ _ _ h => some_eq h
theorem d_le : Op2 K dLe (rI0 fun i j => .bl (decide (i ≤ j))) := op2B0 fun _ _ _ h => some_eq h
theorem d_gt : Op2 K dGt (rI0 fun i j => .bl (decide (j < i))) := op2B0 fun _ _ _ h => some_eq h
theorem d_ge : Op2 K dGe (rI0 fun i j => .bl (decide (j ≤ i))) := op2B0 fun _ _ _ h => some_eq h
end

/-! ### + of anything; * of a sequence -/
def LIM : Nat := 16777216
theorem lim_line : LIM = sizeLine := by decide
def dAdd : D → D → Option D
  | .int i, .int j => some (.int (i + j))
  | .tup xs, .tup ys => if xs.length + ys.length ≤ LIM then some (.tup (xs ++ ys)) else none
  | .lst xs, .lst ys => if xs.length + ys.length ≤ LIM then some (.lst (xs ++ ys)) else none
  | .str x, .str y => if x.length + y.length ≤ LIM then some (.str (x ++ y)) else none
  | _, _ => none
def rAddA (K : PySem.W.Frag) : R2 := fun x y H Q => (((∃ i j, x = .int i ∧ y = .int j ∧ Q (.int (i + j)) H) ∨ rCatA K x y H Q) ∨ rCat x y H Q) ∨ (∃ i j, x = .str i ∧ y = .str j ∧ i.length + j.length ≤ sizeLine ∧ Q (.str (i ++ j)) H)
theorem op_addA {X : Cx} : OpR X (binaryOp .Add) (rAddA X.K) := ((OpR.or (OpR.or op_add op_catA) op_cat).or op_add_str)
theorem if_some {c : Prop} [Decidable c] {a b : D} (h : (if c then some a else none) = some b) : c ∧ b = a := by
  by_cases hc : c
  · rw [if_pos hc] at h; exact ⟨hc, (Option.some.inj h).symm⟩
  · rw [if_neg hc] at h; cases h
section
variable {K : PySem.W.Frag}
theorem d_add : Op2 K dAdd (rAddA K) := by
  intro F H x y dx dy d Q s rx ry e q
  unfold dAdd at e
  split at e
  · cases e
    exact .inl (.inl (.inl ⟨_, _, rx.int, ry.int, q _ H F (.refl s) (.int _)⟩))
  · obtain ⟨c, rfl⟩ := if_some e
    rw [lim_line] at c
    obtain ⟨a, vs, rfl, h1, r1⟩ := rx.tup
    obtain ⟨b, ws, rfl, h2, r2⟩ := ry.tup
    refine .inl (.inl (.inr ⟨a, b, vs, ws, rfl, rfl, .of (s _ _ h1), .of (s _ _ h2), by rw [r1.length, r2.length]; exact c, fun e => ?_, fun _ e => ?_, fun _ _ p np => ?_⟩))
    · subst e
      cases r1
      exact q _ H F (.refl s) (.ob h2 (.tup r2))
    · subst e
      cases r2
      refine q _ H F (.refl s) (.ob h1 (.tup ?_))
      rw [List.append_nil]; exact r1
    · have E := Ext.laid s (o := .tup (vs ++ ws)) np
      exact q _ _ _ E (.ob upd_same (.tup ((r1.append r2).mono E.f)))
  · obtain ⟨c, rfl⟩ := if_some e
    rw [lim_line] at c
    obtain ⟨a, vs, rfl, h1, r1⟩ := rx.lst s
    obtain ⟨b, ws, rfl, h2, r2⟩ := ry.lst s
    refine .inl (.inr ⟨a, b, vs, ws, rfl, rfl, h1, h2, by rw [r1.length, r2.length]; exact c, fun p np => ?_⟩)
    have E := Ext.laid s (o := .lst (vs ++ ws)) np
    exact q _ _ _ E (.ob upd_same (.lst ((r1.append r2).mono E.f)))
  · obtain ⟨c, rfl⟩ := if_some e
    rw [lim_line] at c
    exact .inr ⟨_, _, rx.str, ry.str, c, q _ H F (.refl s) (.str _)⟩
  · cases e
/-- list + list, the new list one's own -/
def dCat : D → D → Option D
  | .lst xs, .lst ys => if xs.length + ys.length ≤ LIM then some (.lst (xs ++ ys)) else none
  | _, _ => none
theorem d_cat : Op2N K dCat rCat := by
  intro F H x y dx dy d Q s rx ry e q
  unfold dCat at e
  split at e
  · obtain ⟨c, rfl⟩ := if_some e
    rw [lim_line] at c
    obtain ⟨a, vs, rfl, h1, r1⟩ := rx.lst s
    obtain ⟨b, ws, rfl, h2, r2⟩ := ry.lst s
    refine ⟨a, b, vs, ws, rfl, rfl, h1, h2, by rw [r1.length, r2.length]; exact c, fun p np => ?_⟩
    exact q p _ _ F (Ext.own s np) np (s.free np) upd_same rfl (.lst (r1.append r2))
  · cases e
end
end SK

set_option Elab.async false
set_option linter.all false
set_option maxRecDepth 100000
set_option maxHeartbeats 4000000
set_option autoImplicit false
namespace SK
open PySem PySem.Spec PyProof.Rows L2

/-! ### equality of data -/
mutual
def D.py : D → PyData
  | .non => .none
  | .bl b => .bool b
  | .int i => .int i
  | .str s => .str s
  | .tup xs => .tuple (D.pyL xs)
  | .lst xs => .list (D.pyL xs)
  | .scr ns => .list (ns.map .int)
def D.pyL : List D → List PyData
  | [] => []
  | x :: xs => D.py x :: D.pyL xs
end
mutual
def D.eqb : D → D → Bool
  | .non, .non => true
  | .bl a, .bl b => a == b
  | .bl a, .int j => (if a then 1 else 0) == j
  | .int i, .bl b => i == (if b then 1 else 0)
  | .int i, .int j => i == j
  | .str x, .str y => x == y
  | .tup xs, .tup ys => D.eqbL xs ys
  | .lst xs, .lst ys => D.eqbL xs ys
  | _, _ => false
def D.eqbL : List D → List D → Bool
  | [], [] => true
  | x :: xs, y :: ys => D.eqb x y && D.eqbL xs ys
  | _, _ => false
end
def D.shp : Nat → D → Bool
  | _, .non => true
  | _, .bl _ => true
  | _, .int _ => true
  | _, .str s => PyData.strOk s
  | n + 1, .tup xs => xs.all (D.shp n)
  | n + 1, .lst xs => xs.all (D.shp n)
  | _, _ => false
theorem shp_ok : ∀ (n : Nat) (d : D), D.shp n d = true → d.py.canLay0 = true ∧ d.py.depth ≤ n := by
  intro n
  induction n with
  | zero =>
    intro d h
    cases d with
    | non => exact ⟨rfl, Nat.le_refl _⟩
    | bl => exact ⟨rfl, Nat.le_refl _⟩
    | int => exact ⟨rfl, Nat.le_refl _⟩
    | str s => exact ⟨h, Nat.le_refl _⟩
    | tup xs => cases h
    | lst xs => cases h
    | scr ns => cases h
  | succ n ih =>
    intro d h
    have L : ∀ xs : List D, xs.all (D.shp n) = true → PyData.canLayAll0 (D.pyL xs) = true ∧ PyData.depthAll (D.pyL xs) ≤ n := by
      intro xs
      induction xs with
      | nil => intro _; exact ⟨by simp only [D.pyL, PyData.canLayAll0], by simp only [D.pyL, PyData.depthAll]; exact Nat.zero_le _⟩
      | cons x xs ihx =>
        intro h
        rw [List.all_cons] at h
        obtain ⟨h1, h2⟩ := Bool.and_eq_true_iff.mp h
        obtain ⟨a1, a2⟩ := ih x h1
        obtain ⟨b1, b2⟩ := ihx h2
        simp only [D.pyL, PyData.canLayAll0, PyData.depthAll, a1, b1, Bool.and_self]
        exact ⟨trivial, Nat.max_le.mpr ⟨a2, b2⟩⟩
    cases d with
    | non => exact ⟨rfl, Nat.zero_le _⟩
    | bl => exact ⟨rfl, Nat.zero_le _⟩
    | int => exact ⟨rfl, Nat.zero_le _⟩
    | str s => exact ⟨h, Nat.zero_le _⟩
    | tup xs =>
      obtain ⟨a, b⟩ := L xs h
      simp only [D.py, PyData.canLay0, PyData.depth]
      exact ⟨a, Nat.succ_le_succ b⟩
    | lst xs =>
      obtain ⟨a, b⟩ := L xs h
      simp only [D.py, PyData.canLay0, PyData.depth]
      exact ⟨a, Nat.succ_le_succ b⟩
    | scr ns => cases h
theorem shp_shaped {n : Nat} {d : D} (hn : n ≤ 64) (h : D.shp n d = true) : SeqAt.shaped d.py = true := by
  obtain ⟨a, b⟩ := shp_ok n d h
  unfold SeqAt.shaped
  rw [a, decide_eq_true (Nat.le_trans b hn)]
  rfl
theorem eqb_py : ∀ (n m : Nat) (x y : D), D.shp n x = true → D.shp m y = true → D.eqb x y = PyData.eqv x.py y.py := by
  intro n
  induction n with
  | zero =>
    intro m x y h hy
    cases x <;> first | (cases h; done) | (cases y <;> first | (cases m <;> cases hy; done) | simp only [D.eqb, D.py, PyData.eqv])
  | succ n ih =>
    intro m x y h hy
    have L : ∀ (m : Nat) (xs : List D), xs.all (D.shp n) = true → ∀ ys : List D, ys.all (D.shp m) = true → D.eqbL xs ys = PyData.eqvAll (D.pyL xs) (D.pyL ys) := by
      intro m xs
      induction xs with
      | nil => intro _ ys _; cases ys <;> simp only [D.eqbL, D.pyL, PyData.eqvAll]
      | cons x xs ihx =>
        intro h ys hy
        rw [List.all_cons] at h
        obtain ⟨h1, h2⟩ := Bool.and_eq_true_iff.mp h
        cases ys with
        | nil => simp only [D.eqbL, D.pyL, PyData.eqvAll]
        | cons y ys =>
          rw [List.all_cons] at hy
          obtain ⟨y1, y2⟩ := Bool.and_eq_true_iff.mp hy
          simp only [D.eqbL, D.pyL, PyData.eqvAll]
          rw [ihx h2 ys y2, ih m x y h1 y1]
    cases m with
    | zero => cases x <;> first | (cases h; done) | (cases y <;> first | (cases hy; done) | (simp only [D.eqb, D.py, PyData.eqv]; done))
    | succ m => cases x <;> first | (cases h; done) | (cases y <;> first | (cases hy; done) | (simp only [D.eqb, D.py, PyData.eqv]; done) | (simp only [D.eqb, D.py, PyData.eqv]; exact L m _ h _ hy))
section
variable {K : PySem.W.Frag} {F H : Hp}
mutual
theorem dp_of (s : Same F H) : ∀ {v : V} {d : D}, Rep K F v d → Dp K H v d.py
  | _, _, .non => .non
  | _, _, .bl b => .bl b
  | _, _, .int i => .int i
  | _, _, .str x => .str x
  | _, _, .scr (ns := ns) h => .lst (s.seq h) (dp_ints ns)
  | _, _, .ob h r => dp_ob s (s _ _ h) r
theorem dp_ob (s : Same F H) : ∀ {a : Addr} {o : HO} {d : D}, H a = some o → ObR K F o d → Dp K H (.ref a) d.py
  | _, _, _, h, .tup r => .tup (.of h) (dpl_of s r)
  | _, _, _, h, .lst r => .lst (.of h) (dpl_of s r)
theorem dpl_of (s : Same F H) : ∀ {vs : List V} {ds : List D}, RepL K F vs ds → DpAll K H vs (D.pyL ds)
  | _, _, .nil => .nil
  | _, _, .cons h r => .cons (dp_of s h) (dpl_of s r)
theorem dp_ints : ∀ ns : List Int, DpAll K H (ns.map V.int) (ns.map PyData.int)
  | [] => .nil
  | n :: ns => .cons (.int n) (dp_ints ns)
end
theorem dp_B (s : Same F H) {v : V} {d : D} (r : RepB K F H v d) : Dp K H v d.py := by
  rcases r with r | ⟨_, a, o, rfl, h, q⟩
  · exact dp_of s r
  · exact dp_ob s h q
end
def dEq (x y : D) : Option D := if D.shp 8 x && D.shp 8 y then some (.bl (D.eqb x y)) else none
def dNe (x y : D) : Option D := if D.shp 8 x && D.shp 8 y then some (.bl (!D.eqb x y)) else none
section
variable {K : PySem.W.Frag}
theorem d_eq : Op2 K dEq (rEqD K) := by
  intro F H x y dx dy d Q s rx ry e q
  obtain ⟨c, rfl⟩ := ite_some e
  obtain ⟨c1, c2⟩ := Bool.and_eq_true_iff.mp c
  refine ⟨dx.py, dy.py, dp_B s rx, dp_B s ry, shp_shaped (by decide) c1, shp_shaped (by decide) c2, ?_⟩
  rw [← eqb_py 8 8 dx dy c1 c2]
  exact q _ H F (.refl s) (.bl _)
theorem d_ne : Op2 K dNe (rNeD K) := by
  intro F H x y dx dy d Q s rx ry e q
  obtain ⟨c, rfl⟩ := ite_some e
  obtain ⟨c1, c2⟩ := Bool.and_eq_true_iff.mp c
  refine ⟨dx.py, dy.py, dp_B s rx, dp_B s ry, shp_shaped (by decide) c1, shp_shaped (by decide) c2, ?_⟩
  rw [← eqb_py 8 8 dx dy c1 c2]
  exact q _ H F (.refl s) (.bl _)
/-! ### is, is not -/
def D.isN : D → Bool
  | .non => true
  | _ => false
def dIs : D → D → Option D
  | x, .non => some (.bl x.isN)
  | .bl a, .bl b => some (.bl (decide (a = b)))
  | _, _ => none
def dIsNot : D → D → Option D
  | x, .non => some (.bl (!x.isN))
  | .bl a, .bl b => some (.bl (!decide (a = b)))
  | _, _ => none
def rIsA : R2 := fun x y H Q => (y = .non ∧ Q (.bl (decide (x = .non))) H) ∨ rIsB x y H Q
def rIsNotA : R2 := fun x y H Q => (y = .non ∧ Q (.bl (!decide (x = .non))) H) ∨ rNotB x y H Q
theorem op_isA {X : Cx} : OpR X (compareOp .Is) rIsA := op_isN.or op_isBl
theorem op_isNotA {X : Cx} : OpR X (compareOp .IsNot) rIsNotA := op_notN.or op_notBl
theorem repB_none {F H : Hp} {v : V} {d : D} (r : RepB K F H v d) : decide (v = .non) = d.isN := by
  rcases r with r | ⟨m, a, o, rfl, h, q⟩
  · cases r with
    | ob h q => cases q <;> rfl
    | _ => rfl
  · cases q <;> rfl
/-- is True, is False: of a value that is a bool, None, an int, a text; an answer for the others lacks -/
theorem d_is : Op2 K dIs rIsA := by
  intro F H x y dx dy d Q s rx ry e q
  unfold dIs at e
  split at e
  · cases e
    refine .inl ⟨ry.non, ?_⟩
    rw [repB_none rx]
    exact q _ H F (.refl s) (.bl _)
  · cases e
    exact .inr ⟨_, _, rx.bl, ry.bl, q _ H F (.refl s) (.bl _)⟩
  · cases e
theorem d_isnot : Op2 K dIsNot rIsNotA := by
  intro F H x y dx dy d Q s rx ry e q
  unfold dIsNot at e
  split at e
  · cases e
    refine .inl ⟨ry.non, ?_⟩
    rw [repB_none rx]
    exact q _ H F (.refl s) (.bl _)
  · cases e
    exact .inr ⟨_, _, rx.bl, ry.bl, q _ H F (.refl s) (.bl _)⟩
  · cases e
end

/-! ### truth, tests -/
def truth : D → Option Bool
  | .non => some false
  | .bl b => some b
  | .int i => some (i != 0)
  | .str s => if s.length ≤ LIM then some ((s.length : Int) != 0) else none
  | .tup xs => some !xs.isEmpty
  | .lst xs => some !xs.isEmpty
  | .scr ns => some !ns.isEmpty
abbrev MT := En → Option Bool
def mTru (m : ME) : MT := fun Γ => (m Γ).bind truth
def dB : D → Option Bool
  | .bl b => some b
  | _ => none
def mTB (m : ME) : MT := fun Γ => (m Γ).bind dB
def mAnd (a b : ME) : ME := fun Γ => (a Γ).bind fun x => (truth x).bind fun t => if t then b Γ else some x
def mOr (a b : ME) : ME := fun Γ => (a Γ).bind fun x => (truth x).bind fun t => if t then some x else b Γ
def mtAnd (a b : MT) : MT := fun Γ => (a Γ).bind fun t => if t then b Γ else some false
def mtOr (a b : MT) : MT := fun Γ => (a Γ).bind fun t => if t then some true else b Γ
def mtNot (a : MT) : MT := fun Γ => (a Γ).bind fun t => some (!t)
def mNot (a : ME) : ME := fun Γ => (a Γ).bind fun x => (truth x).bind fun t => some (.bl (!t))
def mIf (c : MT) (a b : ME) : ME := fun Γ => (c Γ).bind fun t => if t then a Γ else b Γ
def mChain (f g : D → D → Option D) (a b c : ME) : ME := fun Γ => (a Γ).bind fun x => (b Γ).bind fun y => (f x y).bind fun z => (dB z).bind fun k => if k then (c Γ).bind fun w => g y w else some (.bl false)
theorem isEmpty_rep {K : PySem.W.Frag} {F : Hp} {vs : List V} {ds : List D} (r : RepL K F vs ds) : vs.isEmpty = ds.isEmpty := by
  cases r <;> rfl
theorem truth_ok {K : PySem.W.Frag} {F H : Hp} {v : V} {d : D} {b : Bool} (s : Same F H) (r : RepB K F H v d) (h : truth d = some b) : TruV K v H b := by
  cases d with
  | non => rw [r.non]; cases h; rfl
  | bl a => rw [r.bl]; cases h; rfl
  | int i => rw [r.int]; cases h; rfl
  | str x =>
    rw [r.str]
    simp only [truth] at h
    split at h
    · rename_i c
      cases h
      exact ⟨by rw [← lim_line]; exact c, rfl⟩
    · cases h
  | tup xs =>
    obtain ⟨a, vs, rfl, h1, r1⟩ := r.tup
    cases h
    exact .inr (.inl ⟨vs, .of (s _ _ h1), by rw [isEmpty_rep r1]⟩)
  | lst xs =>
    obtain ⟨a, vs, rfl, h1, r1⟩ := r.lst s
    cases h
    exact .inl ⟨vs, .of h1, by rw [isEmpty_rep r1]⟩
  | scr ns =>
    obtain ⟨a, rfl, h1⟩ := (r.full rfl).scrI
    cases h
    exact .inl ⟨_, s.seq h1, by rw [List.isEmpty_map]⟩
section
variable {X : Cx} {a b c : Expr} {rest : List Expr} {pos : Pos} {ma mb mc : ME} {ta tb : MT} {f g : D → D → Option D} {r r' : R2}
theorem truT {t : TE} {tt : TT} (ht : ∀ σ H Q, (t σ H fun x H' => ∃ k, TruV X.K x H' k ∧ Q k H') → tt σ H Q) (hw : ∀ σ H Q, rdB X.K ma σ H Q → t σ H Q) : ∀ σ H Q, rdT X.K (mTru ma) σ H Q → tt σ H Q := by
  intro σ H Q ⟨H0, F, Γ, k, R, z, q⟩
  obtain ⟨d, e, z⟩ := Option.bind_eq_some_iff.mp z
  exact ht _ _ _ (hw _ _ _ ⟨H0, F, Γ, d, R, e, fun v H' F' E rv => ⟨k, truth_ok E.fh rv z, q H' F' E⟩⟩)
/-- any expression whose test is its value's truth -/
theorem r_tru (ha : PE X a (rdB X.K ma)) (he : ∀ whole, isTrue a X.env whole = (do let v ← whole; standAt a.pos; holding [v] (truthy v)) := by intro _; rfl) : PT X a (rdT X.K (mTru ma)) :=
  PT.wk (pt_truth ha he) (truT (fun _ _ _ h => h) fun _ _ _ h => h)
theorem tB_of {t : TE} (ht : ∀ σ H Q, rdE X.K ma σ H Q → t σ H Q) {σ H Q} (h : rdT X.K (mTB ma) σ H Q) : tTest t σ H Q := by
  obtain ⟨H0, F, Γ, k, R, z, q⟩ := h
  obtain ⟨d, e, z⟩ := Option.bind_eq_some_iff.mp z
  refine ht _ _ _ ⟨H0, F, Γ, d, R, e, fun v H' F' E rv => ⟨k, ?_, q H' F' E⟩⟩
  unfold dB at z
  split at z
  · cases z
    exact (show RepB X.K F' H' v (.bl _) from .inl rv).bl
  · cases z
theorem r_tcmp {op : CmpOp} (ho : OpR X (compareOp op) r) (hf : Op2 X.K f r) (ha : PE X a (rdB X.K ma)) (hb : PE X b (rdB X.K mb)) (hm : behindInMarks op b = false) : PT X (.Compare a [op] [b] pos) (rdT X.K (mTB (mBin f ma mb))) :=
  PT.wk (pt_cmpR ho ha hb hm) fun _ _ _ h => tB_of (fun _ _ _ h => two hf h) h
theorem chn (hf : Op2 X.K f r) (hg : Op2 X.K g r') {σ H Q} (h : rdE X.K (mChain f g ma mb mc) σ H Q) : tChain r r' (rdB X.K ma) (rdB X.K mb) (rdB X.K mc) σ H Q := by
  obtain ⟨H0, F, Γ, d, R, z, q⟩ := h
  obtain ⟨dx, ex, z⟩ := Option.bind_eq_some_iff.mp z
  obtain ⟨dy, ey, z⟩ := Option.bind_eq_some_iff.mp z
  obtain ⟨dz, ez, z⟩ := Option.bind_eq_some_iff.mp z
  obtain ⟨k, ek, z⟩ := Option.bind_eq_some_iff.mp z
  refine ⟨H0, F, Γ, dx, R, ex, fun x H1 F1 E1 rx => ⟨H0, F1, Γ, dy, R.ext E1, ey, fun y H2 F2 E2 ry => hf F2 H2 x y dx dy dz _ E2.fh (rx.ext E2) ry ez fun v H3 F3 E3 rv => ⟨k, ?_, ?_⟩⟩⟩
  · unfold dB at ek
    split at ek
    · cases ek
      exact (show RepB X.K F3 H3 v (.bl _) from .inl rv).bl
    · cases ek
  · cases k with
    | false =>
      cases z
      exact q _ H3 F3 ((E1.trans E2).trans E3) (.bl _)
    | true =>
      obtain ⟨dw, ew, z⟩ := Option.bind_eq_some_iff.mp z
      refine iteT ⟨H0, F3, Γ, dw, ((R.ext E1).ext E2).ext E3, ew, fun w H4 F4 E4 rw' => hg F4 H4 y w dy dw d Q E4.fh ((ry.ext E3).ext E4) rw' z fun v H' F' E5 rv => q v H' F' ((((E1.trans E2).trans E3).trans E4).trans E5) rv⟩
theorem r_chain {op op' : CmpOp} (ho : OpR X (compareOp op) r) (hf : Op2 X.K f r) (ho' : OpR X (compareOp op') r') (hg : Op2 X.K g r') (ha : PE X a (rdB X.K ma)) (hb : PE X b (rdB X.K mb)) (hc : PE X c (rdB X.K mc))
    (hm : lastMarks [op, op'] [b, c] = false := by with_unfolding_all rfl) : PE X (.Compare a [op, op'] [b, c] pos) (rdE X.K (mChain f g ma mb mc)) :=
  PE.wk (pe_chain ho ho' ha hb hc hm) fun _ _ _ h => chn hf hg h
theorem r_tchain {op op' : CmpOp} (ho : OpR X (compareOp op) r) (hf : Op2 X.K f r) (ho' : OpR X (compareOp op') r') (hg : Op2 X.K g r') (ha : PE X a (rdB X.K ma)) (hb : PE X b (rdB X.K mb)) (hc : PE X c (rdB X.K mc))
    (hm : lastMarks [op, op'] [b, c] = false := by with_unfolding_all rfl) : PT X (.Compare a [op, op'] [b, c] pos) (rdT X.K (mTB (mChain f g ma mb mc))) :=
  PT.wk (pt_chain ho ho' ha hb hc hm) fun _ _ _ h => tB_of (fun _ _ _ h => chn hf hg h) h
theorem r_one {op} {t : TE} (h : PE X a t) : PE X (.BoolOp op [a] pos) t := pe_one h
theorem r_and (ha : PE X a (rdE X.K ma)) (hb : PE X (.BoolOp .And (b :: rest) pos) (rdE X.K mb)) : PE X (.BoolOp .And (a :: b :: rest) pos) (rdE X.K (mAnd ma mb)) :=
  PE.wk (pe_andT ha hb) fun σ H Q ⟨H0, F, Γ, d, R, z, q⟩ => by
    obtain ⟨dx, ex, z⟩ := Option.bind_eq_some_iff.mp z
    obtain ⟨t, et, z⟩ := Option.bind_eq_some_iff.mp z
    refine ⟨H0, F, Γ, dx, R, ex, fun x H1 F1 E1 rx => ⟨t, truth_ok E1.fh (.inl rx) et, ?_⟩⟩
    cases t with
    | false => cases z; exact q x H1 F1 E1 rx
    | true => exact iteT ⟨H0, F1, Γ, d, R.ext E1, z, fun v H' F' E2 rv => q v H' F' (E1.trans E2) rv⟩
theorem r_or (ha : PE X a (rdE X.K ma)) (hb : PE X (.BoolOp .Or (b :: rest) pos) (rdE X.K mb)) : PE X (.BoolOp .Or (a :: b :: rest) pos) (rdE X.K (mOr ma mb)) :=
  PE.wk (pe_orT ha hb) fun σ H Q ⟨H0, F, Γ, d, R, z, q⟩ => by
    obtain ⟨dx, ex, z⟩ := Option.bind_eq_some_iff.mp z
    obtain ⟨t, et, z⟩ := Option.bind_eq_some_iff.mp z
    refine ⟨H0, F, Γ, dx, R, ex, fun x H1 F1 E1 rx => ⟨t, truth_ok E1.fh (.inl rx) et, ?_⟩⟩
    cases t with
    | true => cases z; exact q x H1 F1 E1 rx
    | false => exact iteF ⟨H0, F1, Γ, d, R.ext E1, z, fun v H' F' E2 rv => q v H' F' (E1.trans E2) rv⟩
theorem r_tand1 (ha : PT X a (rdT X.K ta)) : PW X (.BoolOp .And [a] pos) (rdT X.K ta) := pw_and1 ha
theorem r_tor1 (ha : PT X a (rdT X.K ta)) : PW X (.BoolOp .Or [a] pos) (rdT X.K ta) := pw_or1 ha
theorem r_tand (ha : PT X a (rdT X.K ta)) (hb : PW X (.BoolOp .And (b :: rest) pos) (rdT X.K tb)) : PW X (.BoolOp .And (a :: b :: rest) pos) (rdT X.K (mtAnd ta tb)) :=
  PW.wk (pw_and ha hb) fun σ H Q ⟨H0, F, Γ, k, R, z, q⟩ => by
    obtain ⟨t, et, z⟩ := Option.bind_eq_some_iff.mp z
    refine ⟨H0, F, Γ, t, R, et, fun H1 F1 E1 => ?_⟩
    cases t with
    | false => cases z; exact q H1 F1 E1
    | true => exact iteT ⟨H0, F1, Γ, k, R.ext E1, z, fun H' F' E2 => q H' F' (E1.trans E2)⟩
theorem r_tor (ha : PT X a (rdT X.K ta)) (hb : PW X (.BoolOp .Or (b :: rest) pos) (rdT X.K tb)) : PW X (.BoolOp .Or (a :: b :: rest) pos) (rdT X.K (mtOr ta tb)) :=
  PW.wk (pw_or ha hb) fun σ H Q ⟨H0, F, Γ, k, R, z, q⟩ => by
    obtain ⟨t, et, z⟩ := Option.bind_eq_some_iff.mp z
    refine ⟨H0, F, Γ, t, R, et, fun H1 F1 E1 => ?_⟩
    cases t with
    | true => cases z; exact q H1 F1 E1
    | false => exact iteF ⟨H0, F1, Γ, k, R.ext E1, z, fun H' F' E2 => q H' F' (E1.trans E2)⟩
theorem r_tnot (ha : PT X a (rdT X.K ta)) : PT X (.UnaryOp .Not a pos) (rdT X.K (mtNot ta)) :=
  PT.wk (pt_not ha) fun σ H Q ⟨H0, F, Γ, k, R, z, q⟩ => by
    obtain ⟨t, et, z⟩ := Option.bind_eq_some_iff.mp z
    cases z
    exact ⟨H0, F, Γ, t, R, et, fun H1 F1 E1 => q H1 F1 E1⟩
theorem r_not (ha : PE X a (rdB X.K ma)) : PE X (.UnaryOp .Not a pos) (rdE X.K (mNot ma)) :=
  PE.wk (pe_notT ha) fun σ H Q ⟨H0, F, Γ, d, R, z, q⟩ => by
    obtain ⟨dx, ex, z⟩ := Option.bind_eq_some_iff.mp z
    obtain ⟨t, et, z⟩ := Option.bind_eq_some_iff.mp z
    cases z
    exact ⟨H0, F, Γ, dx, R, ex, fun x H1 F1 E1 rx => ⟨t, truth_ok E1.fh rx et, q _ H1 F1 E1 (.bl _)⟩⟩
theorem r_ifx (hc : PT X c (rdT X.K ta)) (ha : PE X a (rdE X.K ma)) (hb : PE X b (rdE X.K mb)) : PE X (.IfExp c a b pos) (rdE X.K (mIf ta ma mb)) :=
  PE.wk (pe_ifExp hc ha hb) fun σ H Q ⟨H0, F, Γ, d, R, z, q⟩ => by
    obtain ⟨t, et, z⟩ := Option.bind_eq_some_iff.mp z
    refine ⟨H0, F, Γ, t, R, et, fun H1 F1 E1 => ?_⟩
    cases t with
    | true => exact iteT ⟨H0, F1, Γ, d, R.ext E1, z, fun v H' F' E2 rv => q v H' F' (E1.trans E2) rv⟩
    | false => exact iteF ⟨H0, F1, Γ, d, R.ext E1, z, fun v H' F' E2 rv => q v H' F' (E1.trans E2) rv⟩
/-- - x -/
def dNeg : D → Option D
  | .int i => some (.int (-i))
  | _ => none
theorem r_neg (ha : PE X a (rdB X.K ma)) : PE X (.UnaryOp .USub a pos) (rdE X.K (mUn dNeg ma)) :=
  PE.wk (pe_un un_neg ha) fun σ H Q h => one (h := rU fun i => .int (-i)) (fun F H x dx d Q s rx e q => by
    unfold dNeg at e
    split at e
    · cases e
      exact ⟨_, rx.int, q _ H F (.refl s) (.int _)⟩
    · cases e) h
end

/-! ### displays, arguments -/
def mNil : MA := fun _ => some []
def mCons (a : ME) (r : MA) : MA := fun Γ => (a Γ).bind fun x => (r Γ).bind fun xs => some (x :: xs)
def mTup (m : MA) : ME := fun Γ => (m Γ).bind fun xs => if xs.length ≤ LIM then some (.tup xs) else none
def mLst (m : MA) : ME := fun Γ => (m Γ).bind fun xs => if xs.length ≤ LIM then some (.lst xs) else none
theorem RepBL.ext {K : PySem.W.Frag} {F H F' H' : Hp} (e : Ext F H F' H') : ∀ {vs : List V} {ds : List D}, RepBL K F H vs ds → RepBL K F' H' vs ds
  | _, _, .nil => .nil
  | _, _, .cons h r => .cons (h.ext e) (RepBL.ext e r)
section
variable {X : Cx} {e : Expr} {es : List Expr} {pos : Pos} {ma : ME} {ms : MA}
theorem r_pnil : PA X [] (rdA X.K mNil) := PA.wk pa_nil fun σ H Q ⟨H0, F, Γ, ds, R, z, q⟩ => by cases z; exact q [] H F (.refl R.fh) .nil
theorem r_pcons (ha : PE X e (rdE X.K ma)) (hr : PA X es (rdA X.K ms)) (hs : starEach (e :: es) X.env = (false, eval e X.env) :: starEach es X.env := by rfl) : PA X (e :: es) (rdA X.K (mCons ma ms)) :=
  PA.wk (pa_cons ha hr hs) fun σ H Q ⟨H0, F, Γ, ds, R, z, q⟩ => by
    obtain ⟨dx, ex, z⟩ := Option.bind_eq_some_iff.mp z
    obtain ⟨dy, ey, z⟩ := Option.bind_eq_some_iff.mp z
    cases z
    exact ⟨H0, F, Γ, dx, R, ex, fun x H1 F1 E1 rx => ⟨H0, F1, Γ, dy, R.ext E1, ey, fun y H2 F2 E2 ry => q _ H2 F2 (E1.trans E2) (.cons (rx.mono E2.f) ry)⟩⟩
theorem r_bnil : PA X [] (rdAB X.K mNil) := PA.wk pa_nil fun σ H Q ⟨H0, F, Γ, ds, R, z, q⟩ => by cases z; exact q [] H F (.refl R.fh) .nil
theorem r_bcons (ha : PE X e (rdB X.K ma)) (hr : PA X es (rdAB X.K ms)) (hs : starEach (e :: es) X.env = (false, eval e X.env) :: starEach es X.env := by rfl) : PA X (e :: es) (rdAB X.K (mCons ma ms)) :=
  PA.wk (pa_cons ha hr hs) fun σ H Q ⟨H0, F, Γ, ds, R, z, q⟩ => by
    obtain ⟨dx, ex, z⟩ := Option.bind_eq_some_iff.mp z
    obtain ⟨dy, ey, z⟩ := Option.bind_eq_some_iff.mp z
    cases z
    exact ⟨H0, F, Γ, dx, R, ex, fun x H1 F1 E1 rx => ⟨H0, F1, Γ, dy, R.ext E1, ey, fun y H2 F2 E2 ry => q _ H2 F2 (E1.trans E2) (.cons (rx.ext E2) ry)⟩⟩
theorem r_tup {k} (h : PA X es (rdA X.K ms)) : PE X (.Tuple es k pos) (rdE X.K (mTup ms)) :=
  PE.wk (pe_tup h) fun σ H Q ⟨H0, F, Γ, d, R, z, q⟩ => by
    obtain ⟨ds, es, z⟩ := Option.bind_eq_some_iff.mp z
    obtain ⟨c, rfl⟩ := if_some z
    refine ⟨H0, F, Γ, ds, R, es, fun vs H1 F1 E1 r => ⟨by rw [← lim_line, r.length]; exact c, fun p np => ?_⟩⟩
    have E := Ext.laid E1.fh (o := .tup vs) np
    exact q _ _ _ (E1.trans E) (.ob upd_same (.tup (r.mono E.f)))
theorem r_lstN (h : PA X es (rdA X.K ms)) : PE X (.List es pos) (rdN X.K (mLst ms)) :=
  PE.wk (pe_lst h) fun σ H Q ⟨H0, F, Γ, d, R, z, q⟩ => by
    obtain ⟨ds, es, z⟩ := Option.bind_eq_some_iff.mp z
    obtain ⟨c, rfl⟩ := if_some z
    refine ⟨H0, F, Γ, ds, R, es, fun vs H1 F1 E1 r => ⟨by rw [← lim_line, r.length]; exact c, fun p np => ?_⟩⟩
    exact q p _ _ F1 (E1.trans (Ext.own E1.fh np)) (E1.h.free np) (E1.fh.free np) upd_same rfl (.lst r)
end

/-! ### subscripts -/
def dIx : D → D → Option D
  | .tup xs, .int i => atI xs i
  | .lst xs, .int i => atI xs i
  | .str s, .int i => if s.length ≤ LIM then (atI s.cps.toList i).map fun c => .str ⟨#[c]⟩ else none
  | .scr ns, .int i => (atI ns i).map .int
  | _, _ => none
theorem ixN_len {n m : Nat} (h : n = m) {i : Int} : ixN n i = ixN m i := by rw [h]
theorem atI_rep {K : PySem.W.Frag} {F : Hp} {vs : List V} {ds : List D} {i : Int} {d : D} (r : RepL K F vs ds) (h : atI ds i = some d) : ∃ v, atI vs i = some v ∧ Rep K F v d := by
  unfold atI at h
  obtain ⟨j, e, h⟩ := Option.bind_eq_some_iff.mp h
  obtain ⟨v, h1, h2⟩ := r.get h
  refine ⟨v, ?_, h2⟩
  unfold atI
  rw [r.length, e]
  exact h1
theorem atI_map {α β : Type} (f : α → β) (xs : List α) (i : Int) : atI (xs.map f) i = (atI xs i).map f := by
  unfold atI
  rw [List.length_map]
  cases ixN xs.length i with
  | none => rfl
  | some j => exact List.getElem?_map
section
variable {K : PySem.W.Frag}
theorem d_ix : Op2 K dIx (rIx K) := by
  intro F H x y dx dy d Q s rx ry e q
  unfold dIx at e
  split at e
  · obtain ⟨a, vs, rfl, h1, r1⟩ := rx.tup
    obtain ⟨v, h2, h3⟩ := atI_rep r1 e
    exact .inr (.inl ⟨a, vs, _, v, rfl, ry.int, .of (s _ _ h1), h2, q v H F (.refl s) h3⟩)
  · obtain ⟨a, vs, rfl, h1, r1⟩ := rx.lst s
    obtain ⟨v, h2, h3⟩ := atI_rep r1 e
    exact .inl ⟨a, vs, _, v, rfl, ry.int, .of h1, h2, q v H F (.refl s) h3⟩
  · split at e
    · rename_i c
      obtain ⟨k, h1, rfl⟩ := Option.map_eq_some_iff.mp e
      exact .inr (.inr ⟨_, _, k, rx.str, ry.int, by rw [← lim_line]; exact c, h1, q _ H F (.refl s) (.str _)⟩)
    · cases e
  · obtain ⟨a, rfl, h1⟩ := (rx.full rfl).scrI
    obtain ⟨k, h2, rfl⟩ := Option.map_eq_some_iff.mp e
    exact .inl ⟨a, _, _, .int k, rfl, ry.int, s.seq h1, by rw [atI_map, h2]; rfl, q _ H F (.refl s) (.int _)⟩
  · cases e
end
section
variable {X : Cx} {a b : Expr} {pos : Pos} {ma mb : ME}
theorem r_ix (ha : PE X a (rdB X.K ma)) (hb : PE X b (rdB X.K mb)) (hs : PlainIx b := by exact fun _ _ => rfl) : PE X (.Subscript a b pos) (rdE X.K (mBin dIx ma mb)) :=
  PE.wk (pe_ix ix_seq ha hb hs) fun _ _ _ h => two d_ix h
end
/-! ### slices -/
abbrev MO := En → Option (Option Int)
def rdO (K : PySem.W.Frag) (m : MO) : TO := fun σ H Q => ∃ H0 F Γ o, Rel K H0 F H σ Γ ∧ m Γ = some o ∧ ∀ H' F', Ext F H F' H' → Q o H'
def mONone : MO := fun _ => some none
def dInt : D → Option (Option Int)
  | .int i => some (some i)
  | _ => none
def mOSome (a : ME) : MO := fun Γ => (a Γ).bind dInt
/-- the items of xs[lo:hi] -/
def cutD (xs : List D) (lo hi : Option Int) : List D := (xs.drop (HT.sIx xs.length 0 lo)).take (HT.sIx xs.length xs.length hi - HT.sIx xs.length 0 lo)
def dSl : D → Option Int → Option Int → Option D
  | .tup xs, lo, hi => some (.tup (cutD xs lo hi))
  | .lst xs, lo, hi => some (.lst (cutD xs lo hi))
  | _, _, _ => none
def dSlL : D → Option Int → Option Int → Option D
  | .lst xs, lo, hi => some (.lst (cutD xs lo hi))
  | _, _, _ => none
def mSl (a : ME) (l h : MO) : ME := fun Γ => (a Γ).bind fun x => (l Γ).bind fun lo => (h Γ).bind fun hi => dSl x lo hi
def mSlL (a : ME) (l h : MO) : ME := fun Γ => (a Γ).bind fun x => (l Γ).bind fun lo => (h Γ).bind fun hi => dSlL x lo hi
theorem cut_rep {K : PySem.W.Frag} {F : Hp} {vs : List V} {ds : List D} (r : RepL K F vs ds) (lo hi : Option Int) : RepL K F (cutV vs lo hi) (cutD ds lo hi) := by
  unfold cutV cutD
  rw [r.length]
  exact (r.drop _).take _
section
variable {X : Cx} {a : Expr} {lo hi : Option Expr} {e : Expr} {pos p2 : Pos} {ma : ME} {ml mh : MO}
theorem r_ono : PO X none (rdO X.K mONone) := ⟨fun pins s σ H Q I ⟨H0, F, Γ, o, R, z, q⟩ => po_none.run pins s σ H Q I (by cases z; exact q H F (.refl R.fh))⟩
theorem r_oso (h : PE X e (rdB X.K ma)) : PO X (some e) (rdO X.K (mOSome ma)) := ⟨fun pins s σ H Q I ⟨H0, F, Γ, o, R, z, q⟩ => (po_some h).run pins s σ H Q I (by
  obtain ⟨d, ed, z⟩ := Option.bind_eq_some_iff.mp z
  refine ⟨H0, F, Γ, d, R, ed, fun v H' F' E rv => ?_⟩
  unfold dInt at z
  split at z
  · cases z
    exact ⟨_, rv.int, q H' F' E⟩
  · cases z)⟩
def rSlB (K : PySem.W.Frag) : V → Option Int → Option Int → Hp → VK → Prop := fun x lo hi H Q => rSlL K x lo hi H Q ∨ rSlA K x lo hi H Q
theorem r_sl (ha : PE X a (rdB X.K ma)) (hl : PO X lo (rdO X.K ml)) (hh : PO X hi (rdO X.K mh)) : PE X (.Subscript a (.Slice lo hi none p2) pos) (rdE X.K (mSl ma ml mh)) :=
  PE.wk (pe_slice (r := rSlB X.K) (sl_list.or sl_tupA) ha hl hh) fun σ H Q ⟨H0, F, Γ, d, R, z, q⟩ => by
    obtain ⟨dx, ex, z⟩ := Option.bind_eq_some_iff.mp z
    obtain ⟨dl, el, z⟩ := Option.bind_eq_some_iff.mp z
    obtain ⟨dh, eh, z⟩ := Option.bind_eq_some_iff.mp z
    refine ⟨H0, F, Γ, dx, R, ex, fun x H1 F1 E1 rx => ⟨H0, F1, Γ, dl, R.ext E1, el, fun H2 F2 E2 => ⟨H0, F2, Γ, dh, (R.ext E1).ext E2, eh, fun H3 F3 E3 => ?_⟩⟩⟩
    have E := (E1.trans E2).trans E3
    have rx3 := (rx.ext E2).ext E3
    unfold dSl at z
    split at z
    · cases z
      obtain ⟨p, vs, rfl, h1, r1⟩ := rx3.tup
      refine .inr ⟨p, vs, rfl, .of (E3.fh _ _ h1), fun w => ?_, fun w t nt => ?_⟩
      · refine q _ H3 F3 E (.ob h1 (.tup ?_))
        have c := cut_rep r1 dl dh
        have e : cutV vs dl dh = vs := by
          unfold cutV
          rw [w.1, w.2, List.drop_zero, Nat.sub_zero, List.take_length]
        rw [e] at c
        exact c
      · have E4 := Ext.laid E3.fh (o := .tup (cutV vs dl dh)) nt
        exact q _ _ _ (E.trans E4) (.ob upd_same (.tup ((cut_rep r1 dl dh).mono E4.f)))
    · cases z
      obtain ⟨p, vs, rfl, h1, r1⟩ := rx3.lst E3.fh
      refine .inl ⟨p, vs, rfl, .of h1, fun t nt => ?_⟩
      have E4 := Ext.laid E3.fh (o := .lst (cutV vs dl dh)) nt
      exact q _ _ _ (E.trans E4) (.ob upd_same (.lst ((cut_rep r1 dl dh).mono E4.f)))
    · cases z
theorem r_slN (ha : PE X a (rdB X.K ma)) (hl : PO X lo (rdO X.K ml)) (hh : PO X hi (rdO X.K mh)) : PE X (.Subscript a (.Slice lo hi none p2) pos) (rdN X.K (mSlL ma ml mh)) :=
  PE.wk (pe_slice sl_list ha hl hh) fun σ H Q ⟨H0, F, Γ, d, R, z, q⟩ => by
    obtain ⟨dx, ex, z⟩ := Option.bind_eq_some_iff.mp z
    obtain ⟨dl, el, z⟩ := Option.bind_eq_some_iff.mp z
    obtain ⟨dh, eh, z⟩ := Option.bind_eq_some_iff.mp z
    refine ⟨H0, F, Γ, dx, R, ex, fun x H1 F1 E1 rx => ⟨H0, F1, Γ, dl, R.ext E1, el, fun H2 F2 E2 => ⟨H0, F2, Γ, dh, (R.ext E1).ext E2, eh, fun H3 F3 E3 => ?_⟩⟩⟩
    have E := (E1.trans E2).trans E3
    have rx3 := (rx.ext E2).ext E3
    unfold dSlL at z
    split at z
    · cases z
      obtain ⟨p, vs, rfl, h1, r1⟩ := rx3.lst E3.fh
      refine ⟨p, vs, rfl, .of h1, fun t nt => ?_⟩
      exact q t _ _ F3 (E.trans (Ext.own E3.fh nt)) (E.h.free nt) (E3.fh.free nt) upd_same rfl (.lst (cut_rep r1 dl dh))
    · cases z
/-- xs[::-1] of a list -/
def dRevL : D → Option D
  | .lst xs => some (.lst xs.reverse)
  | _ => none
theorem r_revN {k : Nat} {p1 p3 : Pos} (ha : PE X a (rdB X.K ma)) : PE X (.Subscript a (.Slice none none (some (.UnaryOp .USub (.Constant (.int 1) k p1) p2)) p3) pos) (rdN X.K (mUn dRevL ma)) :=
  PE.wk (pe_revL ha) fun σ H Q h => oneN (h := fun x H1 Q => ∃ a xs, x = V.ref a ∧ SqL X.K H1 a xs ∧ ∀ p, H1 p = none → Q (.ref p) (upd H1 p (.lst xs.reverse))) (fun F H x dx d Q s rx e q => by
    unfold dRevL at e
    split at e
    · cases e
      obtain ⟨p, vs, rfl, h1, r1⟩ := rx.lst s
      refine ⟨p, vs, rfl, .of h1, fun t nt => ?_⟩
      exact q t _ _ F (Ext.own s nt) nt (s.free nt) upd_same rfl (.lst r1.reverse)
    · cases e) h
end
end SK

set_option Elab.async false
set_option linter.all false
set_option maxRecDepth 100000
set_option maxHeartbeats 4000000
set_option autoImplicit false
namespace SK
open PySem PySem.Spec PyProof.Rows L2

/-! ### what comes to a slot -/
def SlotNew (K : PySem.W.Frag) (H F' H' : Hp) (v : V) : Slot → Prop
  | .emp => False
  | .val d => Rep K F' v d
  | .own d => d.isM = true ∧ ∃ a o, v = .ref a ∧ H a = none ∧ F' a = none ∧ H' a = some o ∧ ObR K F' o d
abbrev MX := En → Option Slot
def rdX (K : PySem.W.Frag) (m : MX) : TE := fun σ H Q => ∃ H0 F Γ s, Rel K H0 F H σ Γ ∧ m Γ = some s ∧ ∀ v H' F', Ext F H F' H' → SlotNew K H F' H' v s → Q v H'
def xV (m : ME) : MX := fun Γ => (m Γ).map .val
def xO (m : ME) : MX := fun Γ => (m Γ).map .own
section
variable {X : Cx} {e : Expr} {m : ME}
theorem toV (h : PE X e (rdE X.K m)) : PE X e (rdX X.K (xV m)) := PE.wk h fun σ H Q ⟨H0, F, Γ, s, R, z, q⟩ => by
  obtain ⟨d, e, rfl⟩ := Option.map_eq_some_iff.mp z
  exact ⟨H0, F, Γ, d, R, e, fun v H' F' E r => q v H' F' E r⟩
theorem toO (h : PE X e (rdN X.K m)) : PE X e (rdX X.K (xO m)) := PE.wk h fun σ H Q ⟨H0, F, Γ, s, R, z, q⟩ => by
  obtain ⟨d, e, rfl⟩ := Option.map_eq_some_iff.mp z
  exact ⟨H0, F, Γ, d, R, e, fun a o H' F' E n fa ha m r => q _ H' F' E ⟨m, a, o, rfl, n, fa, ha, r⟩⟩
end
theorem Rel.setX {K : PySem.W.Frag} {H0 F H F' H' : Hp} {σ : L2.St} {Γ : En} (R : Rel K H0 F H σ Γ) (E : Ext F H F' H') {v : V} {s : Slot} (h : SlotNew K H F' H' v s) (i : Nat) : Rel K H0 F' H' (σ.set i (some v)) (Γ.set i s) := by
  cases s with
  | emp => exact h.elim
  | val d => exact (R.ext E).setVal i h
  | own d =>
    obtain ⟨m, a, o, rfl, n, fa, ha, r⟩ := h
    exact (R.ext E).setOwn i m fa (R.h0.free n) ha r (R.newOff n)

/-! ### calls of built-ins -/
def mCall (f : List D → Option D) (ms : MA) : ME := fun Γ => (ms Γ).bind f
def Fn1 (K : PySem.W.Frag) (f : List D → Option D) (r : List V → Hp → VK → Prop) : Prop :=
  ∀ F H vs ds d Q, Same F H → RepBL K F H vs ds → f ds = some d → (∀ v H' F', Ext F H F' H' → Rep K F' v d → Q v H') → r vs H Q
def Fn1N (K : PySem.W.Frag) (f : List D → Option D) (r : List V → Hp → VK → Prop) : Prop :=
  ∀ F H vs ds d Q, Same F H → RepBL K F H vs ds → f ds = some d → (∀ a o H' F', Ext F H F' H' → H a = none → F' a = none → H' a = some o → d.isM = true → ObR K F' o d → Q (.ref a) H') → r vs H Q
section
variable {X : Cx} {x : Str} {p pos : Pos} {e : Expr} {es : List Expr} {ms : MA} {id T : String} {f : List D → Option D} {r : List V → Hp → VK → Prop}
theorem r_callB (hc : CallR X (.builtin id) r) (hf : Fn1 X.K f r) (hg : Gl X x) (hm : X.mg x = none) (hv : bootBuiltins x = some (.builtin id)) (ha : PA X (e :: es) (rdAB X.K ms)) (hn : x ≠ "__name__" := by decide) (hdb : (x == ("__debug__" : Str)) = false := by decide)
    (he : starEach (e :: es) X.env = (false, eval e X.env) :: starEach es X.env := by rfl) (hpl : (backTo pos (starEach es X.env)).any (·.1) = false := by rfl) : PE X (.Call (.Name x p) (e :: es) [] pos) (rdE X.K (mCall f ms)) :=
  PE.wk (pe_callB hc hg hm hv ha hn hdb he hpl) fun σ H Q ⟨H0, F, Γ, d, R, z, q⟩ => by
    obtain ⟨ds, ed, z⟩ := Option.bind_eq_some_iff.mp z
    exact ⟨H0, F, Γ, ds, R, ed, fun vs H1 F1 E1 r1 => hf F1 H1 vs ds d Q E1.fh r1 z fun v H' F' E2 rv => q v H' F' (E1.trans E2) rv⟩
theorem r_callBN (hc : CallR X (.builtin id) r) (hf : Fn1N X.K f r) (hg : Gl X x) (hm : X.mg x = none) (hv : bootBuiltins x = some (.builtin id)) (ha : PA X (e :: es) (rdAB X.K ms)) (hn : x ≠ "__name__" := by decide) (hdb : (x == ("__debug__" : Str)) = false := by decide)
    (he : starEach (e :: es) X.env = (false, eval e X.env) :: starEach es X.env := by rfl) (hpl : (backTo pos (starEach es X.env)).any (·.1) = false := by rfl) : PE X (.Call (.Name x p) (e :: es) [] pos) (rdN X.K (mCall f ms)) :=
  PE.wk (pe_callB hc hg hm hv ha hn hdb he hpl) fun σ H Q ⟨H0, F, Γ, d, R, z, q⟩ => by
    obtain ⟨ds, ed, z⟩ := Option.bind_eq_some_iff.mp z
    exact ⟨H0, F, Γ, ds, R, ed, fun vs H1 F1 E1 r1 => hf F1 H1 vs ds d Q E1.fh r1 z fun a o H' F' E2 n => q a o H' F' (E1.trans E2) (E1.h.free n)⟩
theorem r_callT (hc : CallR X (.type T) r) (hf : Fn1 X.K f r) (hg : Gl X x) (hm : X.mg x = none) (hv : bootBuiltins x = some (.type T)) (ha : PA X (e :: es) (rdAB X.K ms)) (hn : x ≠ "__name__" := by decide) (hdb : (x == ("__debug__" : Str)) = false := by decide)
    (he : starEach (e :: es) X.env = (false, eval e X.env) :: starEach es X.env := by rfl) (hpl : (backTo pos (starEach es X.env)).any (·.1) = false := by rfl) : PE X (.Call (.Name x p) (e :: es) [] pos) (rdE X.K (mCall f ms)) :=
  PE.wk (pe_callTy hc hg hm hv ha hn hdb he hpl) fun σ H Q ⟨H0, F, Γ, d, R, z, q⟩ => by
    obtain ⟨ds, ed, z⟩ := Option.bind_eq_some_iff.mp z
    exact ⟨H0, F, Γ, ds, R, ed, fun vs H1 F1 E1 r1 => hf F1 H1 vs ds d Q E1.fh r1 z fun v H' F' E2 rv => q v H' F' (E1.trans E2) rv⟩
theorem r_callTN (hc : CallR X (.type T) r) (hf : Fn1N X.K f r) (hg : Gl X x) (hm : X.mg x = none) (hv : bootBuiltins x = some (.type T)) (ha : PA X (e :: es) (rdAB X.K ms)) (hn : x ≠ "__name__" := by decide) (hdb : (x == ("__debug__" : Str)) = false := by decide)
    (he : starEach (e :: es) X.env = (false, eval e X.env) :: starEach es X.env := by rfl) (hpl : (backTo pos (starEach es X.env)).any (·.1) = false := by rfl) : PE X (.Call (.Name x p) (e :: es) [] pos) (rdN X.K (mCall f ms)) :=
  PE.wk (pe_callTy hc hg hm hv ha hn hdb he hpl) fun σ H Q ⟨H0, F, Γ, d, R, z, q⟩ => by
    obtain ⟨ds, ed, z⟩ := Option.bind_eq_some_iff.mp z
    exact ⟨H0, F, Γ, ds, R, ed, fun vs H1 F1 E1 r1 => hf F1 H1 vs ds d Q E1.fh r1 z fun a o H' F' E2 n => q a o H' F' (E1.trans E2) (E1.h.free n)⟩
end
section
variable {K : PySem.W.Frag} {F H : Hp}
theorem bl1 {vs : List V} {d : D} (r : RepBL K F H vs [d]) : ∃ v, vs = [v] ∧ RepB K F H v d := by
  cases r with | cons h r => cases r; exact ⟨_, rfl, h⟩
theorem bl2 {vs : List V} {d e : D} (r : RepBL K F H vs [d, e]) : ∃ v w, vs = [v, w] ∧ RepB K F H v d ∧ RepB K F H w e := by
  cases r with | cons h r => cases r with | cons h2 r => cases r; exact ⟨_, _, rfl, h, h2⟩
def dLen : List D → Option D
  | [.tup xs] => some (.int xs.length)
  | [.lst xs] => some (.int xs.length)
  | [.scr ns] => some (.int ns.length)
  | [.str s] => if s.length ≤ LIM then some (.int s.length) else none
  | _ => none
def rLenV (K : PySem.W.Frag) : List V → Hp → VK → Prop := fun xs H Q => ∃ x n, xs = [x] ∧ LenV K x H n ∧ Q (.int n) H
theorem d_len : Fn1 K dLen (rLenV K) := by
  intro F H vs ds d Q s r e q
  unfold dLen at e
  split at e
  · cases e
    obtain ⟨v, rfl, rr⟩ := bl1 r
    obtain ⟨a, ws, rfl, h1, r1⟩ := rr.tup
    exact ⟨_, _, rfl, .inr ⟨ws, .of (s _ _ h1), r1.length.symm⟩, q _ H F (.refl s) (.int _)⟩
  · cases e
    obtain ⟨v, rfl, rr⟩ := bl1 r
    obtain ⟨a, ws, rfl, h1, r1⟩ := rr.lst s
    exact ⟨_, _, rfl, .inl ⟨ws, .of h1, r1.length.symm⟩, q _ H F (.refl s) (.int _)⟩
  · cases e
    obtain ⟨v, rfl, rr⟩ := bl1 r
    obtain ⟨a, rfl, h1⟩ := (rr.full rfl).scrI
    exact ⟨_, _, rfl, .inl ⟨_, s.seq h1, (List.length_map ..).symm⟩, q _ H F (.refl s) (.int _)⟩
  · split at e
    · rename_i c
      cases e
      obtain ⟨v, rfl, rr⟩ := bl1 r
      exact ⟨_, _, rfl, (by rw [rr.str]; exact ⟨by rw [← lim_line]; exact c, rfl⟩), q _ H F (.refl s) (.int _)⟩
    · cases e
  · cases e
def dAbs : List D → Option D
  | [.int i] => some (.int (if i < 0 then -i else i))
  | _ => none
theorem d_abs : Fn1 K dAbs (fun xs H Q => ∃ i, xs = [.int i] ∧ Q (.int (if i < 0 then -i else i)) H) := by
  intro F H vs ds d Q s r e q
  unfold dAbs at e
  split at e
  · cases e
    obtain ⟨v, rfl, rr⟩ := bl1 r
    exact ⟨_, (by rw [rr.int]), q _ H F (.refl s) (.int _)⟩
  · cases e
def dMax2 : List D → Option D
  | [.int i, .int j] => some (.int (if j > i then j else i))
  | _ => none
theorem d_max2 : Fn1 K dMax2 (fun xs H Q => ∃ i j, xs = [.int i, .int j] ∧ Q (.int (if j > i then j else i)) H) := by
  intro F H vs ds d Q s r e q
  unfold dMax2 at e
  split at e
  · cases e
    obtain ⟨v, w, rfl, r1, r2⟩ := bl2 r
    exact ⟨_, _, (by rw [r1.int, r2.int]), q _ H F (.refl s) (.int _)⟩
  · cases e
def dMin2 : List D → Option D
  | [.int i, .int j] => some (.int (if j < i then j else i))
  | _ => none
theorem d_min2 : Fn1 K dMin2 (fun xs H Q => ∃ i j, xs = [.int i, .int j] ∧ Q (.int (if j < i then j else i)) H) := by
  intro F H vs ds d Q s r e q
  unfold dMin2 at e
  split at e
  · cases e
    obtain ⟨v, w, rfl, r1, r2⟩ := bl2 r
    exact ⟨_, _, (by rw [r1.int, r2.int]), q _ H F (.refl s) (.int _)⟩
  · cases e
def dInt1 : List D → Option D
  | [.int i] => some (.int i)
  | [.bl k] => some (.int (if k then 1 else 0))
  | _ => none
theorem d_int1 : Fn1 K dInt1 (fun xs H Q => (∃ i, xs = [.int i] ∧ Q (.int i) H) ∨ ∃ k, xs = [.bl k] ∧ Q (.int (if k then 1 else 0)) H) := by
  intro F H vs ds d Q s r e q
  unfold dInt1 at e
  split at e
  · cases e
    obtain ⟨v, rfl, rr⟩ := bl1 r
    exact .inl ⟨_, (by rw [rr.int]), q _ H F (.refl s) (.int _)⟩
  · cases e
    obtain ⟨v, rfl, rr⟩ := bl1 r
    exact .inr ⟨_, (by rw [rr.bl]), q _ H F (.refl s) (.int _)⟩
  · cases e
/-! lists of ints, of bools -/
def intsOf : List D → Option (List Int)
  | [] => some []
  | .int i :: r => (intsOf r).map (i :: ·)
  | _ => none
def blsOf : List D → Option (List Bool)
  | [] => some []
  | .bl i :: r => (blsOf r).map (i :: ·)
  | _ => none
theorem Rep.intI {v : V} {i : Int} (r : Rep K F v (.int i)) : v = .int i := (show RepB K F F v (.int i) from .inl r).int
theorem Rep.blI {v : V} {i : Bool} (r : Rep K F v (.bl i)) : v = .bl i := (show RepB K F F v (.bl i) from .inl r).bl
theorem ints_rep : ∀ {ds : List D} {vs : List V} {ns : List Int}, intsOf ds = some ns → RepL K F vs ds → vs = ns.map V.int
  | [], _, _, e, r => by cases e; cases r; rfl
  | .int i :: ds, _, _, e, r => by
    obtain ⟨ms, e1, rfl⟩ := Option.map_eq_some_iff.mp e
    cases r with
    | cons h r => rw [h.intI, ints_rep e1 r]; rfl
  | .non :: _, _, _, e, _ => by cases e
  | .bl _ :: _, _, _, e, _ => by cases e
  | .str _ :: _, _, _, e, _ => by cases e
  | .tup _ :: _, _, _, e, _ => by cases e
  | .lst _ :: _, _, _, e, _ => by cases e
  | .scr _ :: _, _, _, e, _ => by cases e
theorem bls_rep : ∀ {ds : List D} {vs : List V} {ns : List Bool}, blsOf ds = some ns → RepL K F vs ds → vs = ns.map V.bl
  | [], _, _, e, r => by cases e; cases r; rfl
  | .bl i :: ds, _, _, e, r => by
    obtain ⟨ms, e1, rfl⟩ := Option.map_eq_some_iff.mp e
    cases r with
    | cons h r => rw [h.blI, bls_rep e1 r]; rfl
  | .non :: _, _, _, e, _ => by cases e
  | .int _ :: _, _, _, e, _ => by cases e
  | .str _ :: _, _, _, e, _ => by cases e
  | .tup _ :: _, _, _, e, _ => by cases e
  | .lst _ :: _, _, _, e, _ => by cases e
  | .scr _ :: _, _, _, e, _ => by cases e
theorem rep_ints : ∀ ns : List Int, RepL K F (ns.map V.int) (ns.map D.int)
  | [] => .nil
  | n :: ns => .cons (.int n) (rep_ints ns)
theorem intsOf_map : ∀ ns : List Int, intsOf (ns.map D.int) = some ns
  | [] => rfl
  | n :: ns => by simp only [List.map_cons, intsOf, intsOf_map ns, Option.map_some]
theorem blsOf_map : ∀ ns : List Bool, blsOf (ns.map D.bl) = some ns
  | [] => rfl
  | n :: ns => by simp only [List.map_cons, blsOf, blsOf_map ns, Option.map_some]
def dSum : List D → Option D
  | [.lst xs] => (intsOf xs).map fun ns => .int ns.sum
  | _ => none
theorem d_sum : Fn1 K dSum (rSum K) := by
  intro F H vs ds d Q s r e q
  unfold dSum at e
  split at e
  · obtain ⟨ns, e1, rfl⟩ := Option.map_eq_some_iff.mp e
    obtain ⟨v, rfl, rr⟩ := bl1 r
    obtain ⟨a, ws, rfl, h1, r1⟩ := rr.lst s
    rw [ints_rep e1 r1] at h1
    exact ⟨a, ns, rfl, .of h1, q _ H F (.refl s) (.int _)⟩
  · cases e
def maxI : Int → List Int → Int
  | m, [] => m
  | m, x :: xs => maxI (if m < x then x else m) xs
def minI : Int → List Int → Int
  | m, [] => m
  | m, x :: xs => minI (if x < m then x else m) xs
theorem maxI_ok : ∀ (xs : List Int) (m : Int), maxI m xs ∈ m :: xs ∧ ∀ y ∈ m :: xs, y ≤ maxI m xs
  | [], m => ⟨List.mem_cons_self, fun y h => by rw [List.mem_singleton.mp h]; exact Int.le_refl _⟩
  | x :: xs, m => by
    show maxI (if m < x then x else m) xs ∈ _ ∧ ∀ y ∈ m :: x :: xs, y ≤ maxI (if m < x then x else m) xs
    have ht : ∃ t, t = (if m < x then x else m) ∧ m ≤ t ∧ x ≤ t ∧ (t = m ∨ t = x) := by
      refine ⟨_, rfl, ?_⟩
      split <;> omega
    obtain ⟨t, e, t1, t2, t3⟩ := ht
    rw [← e]
    obtain ⟨h1, h2⟩ := maxI_ok xs t
    refine ⟨?_, fun y hy => ?_⟩
    · rcases List.mem_cons.mp h1 with h | h
      · rw [h]
        rcases t3 with rfl | rfl
        · exact List.mem_cons_self
        · exact List.mem_cons_of_mem _ List.mem_cons_self
      · exact List.mem_cons_of_mem _ (List.mem_cons_of_mem _ h)
    · have hm := h2 t List.mem_cons_self
      rcases List.mem_cons.mp hy with e | hy
      · omega
      · rcases List.mem_cons.mp hy with e | hy
        · omega
        · exact h2 y (List.mem_cons_of_mem _ hy)
theorem minI_ok : ∀ (xs : List Int) (m : Int), minI m xs ∈ m :: xs ∧ ∀ y ∈ m :: xs, minI m xs ≤ y
  | [], m => ⟨List.mem_cons_self, fun y h => by rw [List.mem_singleton.mp h]; exact Int.le_refl _⟩
  | x :: xs, m => by
    show minI (if x < m then x else m) xs ∈ _ ∧ ∀ y ∈ m :: x :: xs, minI (if x < m then x else m) xs ≤ y
    have ht : ∃ t, t = (if x < m then x else m) ∧ t ≤ m ∧ t ≤ x ∧ (t = m ∨ t = x) := by
      refine ⟨_, rfl, ?_⟩
      split <;> omega
    obtain ⟨t, e, t1, t2, t3⟩ := ht
    rw [← e]
    obtain ⟨h1, h2⟩ := minI_ok xs t
    refine ⟨?_, fun y hy => ?_⟩
    · rcases List.mem_cons.mp h1 with h | h
      · rw [h]
        rcases t3 with rfl | rfl
        · exact List.mem_cons_self
        · exact List.mem_cons_of_mem _ List.mem_cons_self
      · exact List.mem_cons_of_mem _ (List.mem_cons_of_mem _ h)
    · have hm := h2 t List.mem_cons_self
      rcases List.mem_cons.mp hy with e | hy
      · omega
      · rcases List.mem_cons.mp hy with e | hy
        · omega
        · exact h2 y (List.mem_cons_of_mem _ hy)
def dMax1 : List D → Option D
  | [.lst xs] => (intsOf xs).bind fun ns => match ns with
    | [] => none
    | n :: ms => some (.int (maxI n ms))
  | _ => none
def dMin1 : List D → Option D
  | [.lst xs] => (intsOf xs).bind fun ns => match ns with
    | [] => none
    | n :: ms => some (.int (minI n ms))
  | _ => none
theorem d_max1 : Fn1 K dMax1 (rMax K) := by
  intro F H vs ds d Q s r e q
  unfold dMax1 at e
  split at e
  · obtain ⟨ns, e1, e⟩ := Option.bind_eq_some_iff.mp e
    obtain ⟨v, rfl, rr⟩ := bl1 r
    obtain ⟨a, ws, rfl, h1, r1⟩ := rr.lst s
    rw [ints_rep e1 r1] at h1
    split at e
    · cases e
    · rename_i n ms
      cases e
      refine ⟨a, n :: ms, rfl, .of h1, Nat.zero_lt_succ _, fun m hm hy => ?_⟩
      obtain ⟨c1, c2⟩ := maxI_ok ms n
      have : m = maxI n ms := Int.le_antisymm (c2 m hm) (hy _ c1)
      rw [this]
      exact q _ H F (.refl s) (.int _)
  · cases e
theorem d_min1 : Fn1 K dMin1 (rMin K) := by
  intro F H vs ds d Q s r e q
  unfold dMin1 at e
  split at e
  · obtain ⟨ns, e1, e⟩ := Option.bind_eq_some_iff.mp e
    obtain ⟨v, rfl, rr⟩ := bl1 r
    obtain ⟨a, ws, rfl, h1, r1⟩ := rr.lst s
    rw [ints_rep e1 r1] at h1
    split at e
    · cases e
    · rename_i n ms
      cases e
      refine ⟨a, n :: ms, rfl, .of h1, Nat.zero_lt_succ _, fun m hm hy => ?_⟩
      obtain ⟨c1, c2⟩ := minI_ok ms n
      have : m = minI n ms := Int.le_antisymm (hy _ c1) (c2 m hm)
      rw [this]
      exact q _ H F (.refl s) (.int _)
  · cases e
def dAny : List D → Option D
  | [.lst xs] => (blsOf xs).map fun bs => .bl (bs.any id)
  | _ => none
def dAll : List D → Option D
  | [.lst xs] => (blsOf xs).map fun bs => .bl (bs.all id)
  | _ => none
theorem d_any : Fn1 K dAny (rAny K) := by
  intro F H vs ds d Q s r e q
  unfold dAny at e
  split at e
  · obtain ⟨ns, e1, rfl⟩ := Option.map_eq_some_iff.mp e
    obtain ⟨v, rfl, rr⟩ := bl1 r
    obtain ⟨a, ws, rfl, h1, r1⟩ := rr.lst s
    rw [bls_rep e1 r1] at h1
    exact ⟨a, ns, rfl, .of h1, q _ H F (.refl s) (.bl _)⟩
  · cases e
theorem d_all : Fn1 K dAll (rAll K) := by
  intro F H vs ds d Q s r e q
  unfold dAll at e
  split at e
  · obtain ⟨ns, e1, rfl⟩ := Option.map_eq_some_iff.mp e
    obtain ⟨v, rfl, rr⟩ := bl1 r
    obtain ⟨a, ws, rfl, h1, r1⟩ := rr.lst s
    rw [bls_rep e1 r1] at h1
    exact ⟨a, ns, rfl, .of h1, q _ H F (.refl s) (.bl _)⟩
  · cases e
def dTuple : List D → Option D
  | [.lst xs] => some (.tup xs)
  | [.tup xs] => some (.tup xs)
  | _ => none
def rTupOf (K : PySem.W.Frag) : List V → Hp → VK → Prop := fun xs H Q => ∃ p ys, xs = [.ref p] ∧ ((SqL K H p ys ∧ ∀ l, H l = none → Q (.ref l) (upd H l (.tup ys))) ∨ (SqT K H p ys ∧ Q (.ref p) H))
theorem d_tuple : Fn1 K dTuple (rTupOf K) := by
  intro F H vs ds d Q s r e q
  unfold dTuple at e
  split at e
  · cases e
    obtain ⟨v, rfl, rr⟩ := bl1 r
    obtain ⟨a, ws, rfl, h1, r1⟩ := rr.lst s
    refine ⟨a, ws, rfl, .inl ⟨.of h1, fun l nl => ?_⟩⟩
    have E := Ext.laid s (o := .tup ws) nl
    exact q _ _ _ E (.ob upd_same (.tup (r1.mono E.f)))
  · cases e
    obtain ⟨v, rfl, rr⟩ := bl1 r
    obtain ⟨a, ws, rfl, h1, r1⟩ := rr.tup
    exact ⟨a, ws, rfl, .inr ⟨.of (s _ _ h1), q _ H F (.refl s) (.ob h1 (.tup r1))⟩⟩
  · cases e
def dList : List D → Option D
  | [.lst xs] => some (.lst xs)
  | [.tup xs] => some (.lst xs)
  | _ => none
def rListOf (K : PySem.W.Frag) : List V → Hp → VK → Prop := fun xs H Q => ∃ p ys, xs = [.ref p] ∧ (SqL K H p ys ∨ SqT K H p ys) ∧ ∀ l, H l = none → Q (.ref l) (upd H l (.lst ys))
theorem d_list : Fn1N K dList (rListOf K) := by
  intro F H vs ds d Q s r e q
  unfold dList at e
  split at e
  · cases e
    obtain ⟨v, rfl, rr⟩ := bl1 r
    obtain ⟨a, ws, rfl, h1, r1⟩ := rr.lst s
    exact ⟨a, ws, rfl, .inl (.of h1), fun l nl => q l _ _ F (Ext.own s nl) nl (s.free nl) upd_same rfl (.lst r1)⟩
  · cases e
    obtain ⟨v, rfl, rr⟩ := bl1 r
    obtain ⟨a, ws, rfl, h1, r1⟩ := rr.tup
    exact ⟨a, ws, rfl, .inr (.of (s _ _ h1)), fun l nl => q l _ _ F (Ext.own s nl) nl (s.free nl) upd_same rfl (.lst r1)⟩
  · cases e
end

/-! ### range as a value: list(range(..)), tuple(range(..)) -/
def rngD (a b : Int) : List D := (List.range (b - a).toNat).map fun i => D.int (a + (i : Nat))
def okR (a b : Int) : Bool := decide (-1000000 ≤ a) && decide (a ≤ 1000000) && decide (-1000000 ≤ b) && decide (b ≤ 1000000)
theorem okR_bounds {a b : Int} (h : okR a b = true) : -1000000 ≤ a ∧ a ≤ 1000000 ∧ -1000000 ≤ b ∧ b ≤ 1000000 := by
  unfold okR at h
  simp only [Bool.and_eq_true, decide_eq_true_eq] at h
  omega
theorem big62 : (2 : Int) ^ 62 = 4611686018427387904 := by decide
theorem okR_rg {a b : Int} (h : okR a b = true) : RgOk a b := by
  obtain ⟨h1, h2, h3, h4⟩ := okR_bounds h
  unfold RgOk
  rw [big62]
  refine ⟨by omega, by omega, by omega, by omega, ?_⟩
  have : (2 : Nat) ^ 24 = 16777216 := by decide
  rw [this]
  omega
theorem rep_rng {K : PySem.W.Frag} {F : Hp} (a b : Int) : RepL K F (rgV a b) (rngD a b) := by
  unfold rgV rngD
  generalize List.range (b - a).toNat = l
  induction l with
  | nil => exact .nil
  | cons x l ih => exact .cons (.int _) ih
abbrev MR := En → Option (Int × Int)
def rdR (K : PySem.W.Frag) (m : MR) : L2.St → Hp → (Int → Int → Hp → Prop) → Prop := fun σ H Q => ∃ H0 F Γ p, Rel K H0 F H σ Γ ∧ m Γ = some p ∧ ∀ H' F', Ext F H F' H' → Q p.1 p.2 H'
def dI : D → Option Int
  | .int i => some i
  | _ => none
def mR1 (a : ME) : MR := fun Γ => ((a Γ).bind dI).map fun n => (0, n)
def mR2 (a b : ME) : MR := fun Γ => ((a Γ).bind dI).bind fun i => ((b Γ).bind dI).map fun j => (i, j)
section
variable {X : Cx} {a b : Expr} {p pos : Pos} {ma mb : ME} {mr : MR} {e : Expr}
theorem dI_some {d : D} {i : Int} (h : dI d = some i) : d = .int i := by
  unfold dI at h
  split at h
  · cases h; rfl
  · cases h
theorem r_rg1 (hg : Gl X "range") (hm : X.mg "range" = none) (ha : PE X a (rdB X.K ma)) (na : starEach [a] X.env = (false, eval a X.env) :: starEach [] X.env := by rfl) : PRg X (.Call (.Name "range" p) [a] [] pos) (rdR X.K (mR1 ma)) :=
  fun pins s σ H Q I ⟨H0, F, Γ, z, R, e, q⟩ => prg_1 hg hm ha na pins s σ H Q I (by
    obtain ⟨i, e1, rfl⟩ := Option.map_eq_some_iff.mp e
    obtain ⟨d, e3, e2⟩ := Option.bind_eq_some_iff.mp e1
    rw [dI_some e2] at e3
    exact ⟨H0, F, Γ, _, R, e3, fun v H' F' E r => ⟨i, r.int, q H' F' E⟩⟩)
theorem r_rg2 (hg : Gl X "range") (hm : X.mg "range" = none) (ha : PE X a (rdB X.K ma)) (hb : PE X b (rdB X.K mb)) (na : starEach [a, b] X.env = (false, eval a X.env) :: starEach [b] X.env := by rfl)
    (nb : starEach [b] X.env = (false, eval b X.env) :: starEach [] X.env := by rfl) (nc : ∀ p, ((backTo p (starEach [b] X.env)).any fun x => x.1) = false := by intro _; rfl) : PRg X (.Call (.Name "range" p) [a, b] [] pos) (rdR X.K (mR2 ma mb)) :=
  fun pins s σ H Q I ⟨H0, F, Γ, z, R, e, q⟩ => prg_2 hg hm ha hb na nb (nc _) pins s σ H Q I (by
    obtain ⟨i, e1, e3⟩ := Option.bind_eq_some_iff.mp e
    obtain ⟨d, e6, e2⟩ := Option.bind_eq_some_iff.mp e1
    obtain ⟨j, e5, rfl⟩ := Option.map_eq_some_iff.mp e3
    obtain ⟨d', e7, e4⟩ := Option.bind_eq_some_iff.mp e5
    rw [dI_some e2] at e6
    rw [dI_some e4] at e7
    exact ⟨H0, F, Γ, _, R, e6, fun v H' F' E r => ⟨H0, F', Γ, _, R.ext E, e7, fun w H2 F2 E2 r2 => ⟨i, j, r.int, r2.int, q H2 F2 (E.trans E2)⟩⟩⟩)
def mLstR (m : MR) : ME := fun Γ => (m Γ).bind fun p => if okR p.1 p.2 then some (.lst (rngD p.1 p.2)) else none
def mTupR (m : MR) : ME := fun Γ => (m Γ).bind fun p => if okR p.1 p.2 then some (.tup (rngD p.1 p.2)) else none
theorem r_lstRN (hc : X.calm = true) (hg : Gl X "list") (hm : X.mg "list" = none) (he : PRg X e (rdR X.K mr)) (na : starEach [e] X.env = (false, eval e X.env) :: starEach [] X.env := by rfl) : PE X (.Call (.Name "list" p) [e] [] pos) (rdN X.K (mLstR mr)) :=
  PE.wk (pe_listRg hc hg hm he na) fun σ H Q ⟨H0, F, Γ, d, R, z, q⟩ => by
    obtain ⟨ab, e1, z⟩ := Option.bind_eq_some_iff.mp z
    obtain ⟨c, rfl⟩ := ite_some z
    exact ⟨H0, F, Γ, ab, R, e1, fun H1 F1 E1 => ⟨okR_rg c, fun p np => q p _ _ F1 (E1.trans (Ext.own E1.fh np)) (E1.h.free np) (E1.fh.free np) upd_same rfl (.lst (rep_rng _ _))⟩⟩
theorem r_tupR (hc : X.calm = true) (hg : Gl X "tuple") (hm : X.mg "tuple" = none) (he : PRg X e (rdR X.K mr)) (na : starEach [e] X.env = (false, eval e X.env) :: starEach [] X.env := by rfl) : PE X (.Call (.Name "tuple" p) [e] [] pos) (rdE X.K (mTupR mr)) :=
  PE.wk (pe_tupRg hc hg hm he na) fun σ H Q ⟨H0, F, Γ, d, R, z, q⟩ => by
    obtain ⟨ab, e1, z⟩ := Option.bind_eq_some_iff.mp z
    obtain ⟨c, rfl⟩ := ite_some z
    refine ⟨H0, F, Γ, ab, R, e1, fun H1 F1 E1 => ⟨okR_rg c, fun p np => ?_⟩⟩
    have E := Ext.laid E1.fh (o := .tup (rgV ab.1 ab.2)) np
    exact q _ _ _ (E1.trans E) (.ob upd_same (.tup (rep_rng _ _)))
end

/-! ### calls of defs -/
/-- a def's promise: what m tells of its arguments comes back, all that stood stays -/
def spF (K : PySem.W.Frag) (m : List D → Option D) : Sp := fun vs H Q _ => ∃ F ds d, Same F H ∧ RepL K F vs ds ∧ m ds = some d ∧ ∀ v H' F', Ext F H F' H' → Rep K F' v d → Q v H'
section
variable {X : Cx} {k : Nat} {f : Addr} {fd : FuncData} {ps : List Str} {x : Str} {p pos : Pos} {e : Expr} {es : List Expr} {ms : MA} {m : List D → Option D}
theorem r_call (G : FnOk X.prog X.w X.K X.mg X.base CX0 k f fd ps (spF X.K m)) (hr : Room k X.A) (hg : Gl X x) (hm : X.mg x = some (.ref f)) (hk : PySem.W.keepIn X.K (.ref f) = true) (hb : Binds X.K fd ps []) (ha : PA X (e :: es) (rdA X.K ms))
    (hdb : (x == ("__debug__" : Str)) = false := by decide) (he : starEach (e :: es) X.env = (false, eval e X.env) :: starEach es X.env := by rfl) (hpl : (backTo pos (starEach es X.env)).any (·.1) = false := by rfl) :
    PE X (.Call (.Name x p) (e :: es) [] pos) (rdE X.K (mCall m ms)) :=
  PE.wk (pe_call (E := E0) G hr hg hm hk hb .nil pass0 ha hdb he hpl) fun σ H Q ⟨H0, F, Γ, d, R, z, q⟩ => by
    obtain ⟨ds, ed, z⟩ := Option.bind_eq_some_iff.mp z
    refine ⟨H0, F, Γ, ds, R, ed, fun vs H1 F1 E1 r1 => ?_⟩
    show spF X.K m (vs ++ []) H1 Q E0
    rw [List.append_nil]
    exact ⟨F1, ds, d, E1.fh, r1, z, fun v H' F' E2 rv => q v H' F' (E1.trans E2) rv⟩
def scalO (m : List D → Option D) : List D → Option D := fun ds => (m ds).bind fun d => if d.scal then some d else none
theorem RepBL.all {K : PySem.W.Frag} {F H : Hp} (s : Same F H) : ∀ {vs : List V} {ds : List D}, RepBL K F H vs ds → RepL K H vs ds
  | _, _, .nil => .nil
  | _, _, .cons h r => .cons (by
      rcases h with h | ⟨_, a, o, rfl, h1, h2⟩
      · exact h.mono s
      · exact .ob h1 (h2.mono s)) (RepBL.all s r)
/-- lists of one's own are handed in; what comes back is an int, a bool, a text, None -/
theorem r_callO (G : FnOk X.prog X.w X.K X.mg X.base CX0 k f fd ps (spF X.K m)) (hr : Room k X.A) (hg : Gl X x) (hm : X.mg x = some (.ref f)) (hk : PySem.W.keepIn X.K (.ref f) = true) (hb : Binds X.K fd ps []) (ha : PA X (e :: es) (rdAB X.K ms))
    (hdb : (x == ("__debug__" : Str)) = false := by decide) (he : starEach (e :: es) X.env = (false, eval e X.env) :: starEach es X.env := by rfl) (hpl : (backTo pos (starEach es X.env)).any (·.1) = false := by rfl) :
    PE X (.Call (.Name x p) (e :: es) [] pos) (rdE X.K (mCall (scalO m) ms)) :=
  PE.wk (pe_call (E := E0) G hr hg hm hk hb .nil pass0 ha hdb he hpl) fun σ H Q ⟨H0, F, Γ, d, R, z, q⟩ => by
    obtain ⟨ds, ed, z⟩ := Option.bind_eq_some_iff.mp z
    obtain ⟨d', em, z⟩ := Option.bind_eq_some_iff.mp z
    obtain ⟨c, rfl⟩ := ite_some z
    refine ⟨H0, F, Γ, ds, R, ed, fun vs H1 F1 E1 r1 => ?_⟩
    show spF X.K m (vs ++ []) H1 Q E0
    rw [List.append_nil]
    exact ⟨H1, ds, _, .refl _, r1.all E1.fh, em, fun v H' F' E2 rv => q v H' F1 (E1.trans ⟨.refl _, E2.h, E1.fh.trans E2.h, fun b o e n => (by rw [n] at e; cases e)⟩) (rv.any c)⟩
end
end SK

set_option Elab.async false
set_option linter.all false
set_option maxRecDepth 100000
set_option maxHeartbeats 4000000
set_option autoImplicit false
namespace SK
open PySem PySem.Spec PyProof.Rows L2

/-! ### what is walked -/
/-- an iteration's turns hand out xs, as long as F1 stands -/
structure ItOk (K : PySem.W.Frag) (F1 : Hp) (J : It) (xs : List D) : Prop where
  go : ∀ F H (i : Nat) d, Same F1 F → Same F H → xs[i]? = some d → J.go i H ∧ ∀ x H', J.yld i H x H' → ∃ F', Ext F H F' H' ∧ Rep K F' x d
  stop : ∀ F H, Same F1 F → Same F H → J.stop xs.length H
abbrev ML := En → Option (List D)
def rdI (K : PySem.W.Frag) (m : ML) : TI := fun σ H R => ∃ H0 F Γ xs, Rel K H0 F H σ Γ ∧ m Γ = some xs ∧ ∀ J H' F', Ext F H F' H' → ItOk K F' J xs → R J H'
def itemsD : D → Option (List D)
  | .tup xs => some xs
  | .lst xs => some xs
  | _ => none
def mItems (m : ME) : ML := fun Γ => (m Γ).bind itemsD
section
variable {X : Cx} {tg e a b c : Expr} {p pos : Pos} {ma mb mc : ME} {ms : MA}
theorem PI_or {w1 w2 : TI} (h1 : PI X tg e w1) (h2 : PI X tg e w2) : PI X tg e (fun σ H R => w1 σ H R ∨ w2 σ H R) := ⟨fun pins s σ H R I h => by
  rcases h with h | h
  · exact h1.run pins s σ H R I h
  · exact h2.run pins s σ H R I h⟩
theorem PI_wk {w1 w2 : TI} (h1 : PI X tg e w1) (w : ∀ σ H R, w2 σ H R → w1 σ H R) : PI X tg e w2 := ⟨fun pins s σ H R I h => h1.run pins s σ H R I (w _ _ _ h)⟩
theorem itl_ok {K : PySem.W.Frag} {F1 : Hp} {a : Addr} {vs : List V} {xs : List D} (h : F1 a = some (.lst vs)) (r : RepL K F1 vs xs) : ItOk K F1 (Itl K a) xs := by
  refine ⟨fun F H i d s1 s2 e => ?_, fun F H s1 s2 => ⟨vs, .of (s2 _ _ (s1 _ _ h)), by rw [r.length]; exact Nat.le_refl _⟩⟩
  obtain ⟨v, h1, h2⟩ := r.get e
  have hq : SqL K H a vs := .of (s2 _ _ (s1 _ _ h))
  refine ⟨⟨vs, v, hq, h1⟩, fun x H' y => ?_⟩
  obtain ⟨rfl, y⟩ := y
  have := y vs hq
  rw [h1] at this
  cases this
  exact ⟨F, .refl s2, h2.mono s1⟩
theorem itt_ok {K : PySem.W.Frag} {F1 : Hp} {a : Addr} {vs : List V} {xs : List D} (h : F1 a = some (.tup vs)) (r : RepL K F1 vs xs) : ItOk K F1 (Itt K a) xs := by
  refine ⟨fun F H i d s1 s2 e => ?_, fun F H s1 s2 => ⟨vs, .of (s2 _ _ (s1 _ _ h)), by rw [r.length]; exact Nat.le_refl _⟩⟩
  obtain ⟨v, h1, h2⟩ := r.get e
  have hq : SqT K H a vs := .of (s2 _ _ (s1 _ _ h))
  refine ⟨⟨vs, v, hq, h1⟩, fun x H' y => ?_⟩
  obtain ⟨rfl, y⟩ := y
  have := y vs hq
  rw [h1] at this
  cases this
  exact ⟨F, .refl s2, h2.mono s1⟩
/-- a list, a tuple -/
theorem i_seq (ha : PE X e (rdE X.K ma)) : PI X tg e (rdI X.K (mItems ma)) :=
  PI_wk (PI_or (pi_list ha) (pi_tup ha)) fun σ H R ⟨H0, F, Γ, xs, R0, z, q⟩ => by
    obtain ⟨d, e1, z⟩ := Option.bind_eq_some_iff.mp z
    unfold itemsD at z
    split at z
    · cases z
      refine .inr ⟨H0, F, Γ, _, R0, e1, fun v H' F' E r => ?_⟩
      obtain ⟨a, vs, rfl, h1, r1⟩ := r.tupI
      exact ⟨a, rfl, ⟨vs, .of (E.fh _ _ h1)⟩, q _ H' F' E (itt_ok h1 r1)⟩
    · cases z
      refine .inl ⟨H0, F, Γ, _, R0, e1, fun v H' F' E r => ?_⟩
      obtain ⟨a, vs, rfl, h1, r1⟩ := r.lstI
      exact ⟨a, rfl, ⟨vs, .of (E.fh _ _ h1)⟩, q _ H' F' E (itl_ok h1 r1)⟩
    · cases z
theorem rngD_get {lo hi : Int} {i : Nat} {d : D} (e : (rngD lo hi)[i]? = some d) : i < (hi - lo).toNat ∧ d = .int (lo + i) := by
  unfold rngD at e
  rw [List.getElem?_map] at e
  obtain ⟨j, e1, rfl⟩ := Option.map_eq_some_iff.mp e
  obtain ⟨h1, h2⟩ := List.getElem?_eq_some_iff.mp e1
  rw [List.length_range] at h1
  rw [List.getElem_range] at h2
  exact ⟨h1, by rw [← h2]⟩
theorem rngD_len (lo hi : Int) : (rngD lo hi).length = (hi - lo).toNat := by unfold rngD; rw [List.length_map, List.length_range]
theorem itr_ok {K : PySem.W.Frag} {F1 : Hp} {lo hi : Int} : ItOk K F1 (Itr lo (hi - lo).toNat) (rngD lo hi) := by
  refine ⟨fun F H i d s1 s2 e => ?_, fun F H s1 s2 => by rw [rngD_len]; exact Nat.le_refl _⟩
  obtain ⟨h1, rfl⟩ := rngD_get e
  refine ⟨h1, fun x H' y => ?_⟩
  obtain ⟨rfl, rfl⟩ := y
  exact ⟨F, .refl s2, .int _⟩
def mRng1 (a : ME) : ML := fun Γ => ((a Γ).bind dI).bind fun n => if okR 0 n then some (rngD 0 n) else none
def mRng2 (a b : ME) : ML := fun Γ => ((a Γ).bind dI).bind fun i => ((b Γ).bind dI).bind fun j => if okR i j then some (rngD i j) else none
theorem ite_someL {α : Type} {c : Bool} {a b : α} (h : (if c then some a else none) = some b) : c = true ∧ b = a := by
  cases c
  · cases h
  · exact ⟨rfl, (Option.some.inj h).symm⟩
theorem i_rng1 (hg : Gl X "range") (hm : X.mg "range" = none) (ha : PE X a (rdB X.K ma)) (na : starEach [a] X.env = (false, eval a X.env) :: starEach [] X.env := by rfl) : PI X tg (.Call (.Name "range" p) [a] [] pos) (rdI X.K (mRng1 ma)) :=
  PI_wk (pi_range1 hg hm (r_bcons ha r_bnil na) na) fun σ H R ⟨H0, F, Γ, xs, R0, z, q⟩ => by
    obtain ⟨n, e1, z⟩ := Option.bind_eq_some_iff.mp z
    obtain ⟨d, e2, e3⟩ := Option.bind_eq_some_iff.mp e1
    rw [dI_some e3] at e2
    obtain ⟨c, rfl⟩ := ite_someL z
    obtain ⟨c1, c2, c3, c4⟩ := okR_bounds c
    refine ⟨H0, F, Γ, [.int n], R0, by simp only [mCons, mNil, e2, Option.bind_some], fun vs H' F' E r => ?_⟩
    obtain ⟨v, rfl, rr⟩ := bl1 r
    refine ⟨n, by rw [rr.int], by rw [big62]; omega, by rw [big62]; omega, ?_⟩
    have := q (Itr 0 (n - 0).toNat) H' F' E itr_ok
    rw [Int.sub_zero] at this
    exact this
theorem i_rng2 (hg : Gl X "range") (hm : X.mg "range" = none) (ha : PE X a (rdB X.K ma)) (hb : PE X b (rdB X.K mb)) (na : starEach [a, b] X.env = (false, eval a X.env) :: starEach [b] X.env := by rfl) (nb : starEach [b] X.env = (false, eval b X.env) :: starEach [] X.env := by rfl) :
    PI X tg (.Call (.Name "range" p) [a, b] [] pos) (rdI X.K (mRng2 ma mb)) :=
  PI_wk (pi_range2 hg hm (r_bcons ha (r_bcons hb r_bnil nb) na) (by rw [na, nb]; rfl) nb) fun σ H R ⟨H0, F, Γ, xs, R0, z, q⟩ => by
    obtain ⟨i, e1, z⟩ := Option.bind_eq_some_iff.mp z
    obtain ⟨d, e2, e3⟩ := Option.bind_eq_some_iff.mp e1
    rw [dI_some e3] at e2
    obtain ⟨j, e4, z⟩ := Option.bind_eq_some_iff.mp z
    obtain ⟨d', e5, e6⟩ := Option.bind_eq_some_iff.mp e4
    rw [dI_some e6] at e5
    obtain ⟨c, rfl⟩ := ite_someL z
    obtain ⟨c1, c2, c3, c4⟩ := okR_bounds c
    refine ⟨H0, F, Γ, [.int i, .int j], R0, by simp only [mCons, mNil, e2, e5, Option.bind_some], fun vs H' F' E r => ?_⟩
    obtain ⟨v, w, rfl, r1, r2⟩ := bl2 r
    exact ⟨i, j, by rw [r1.int, r2.int], ⟨by rw [big62]; omega, by rw [big62]; omega, by rw [big62]; omega, by rw [big62]; omega⟩, q _ H' F' E itr_ok⟩
end

/-! ### targets -/
abbrev MG := D → En → Option En
abbrev MGs := List D → En → Option En
/-- the slots but those at ws are as they were -/
def Off (ws : List Nat) (σ σ' : L2.St) : Prop := σ'.length = σ.length ∧ ∀ i : Nat, i ∉ ws → σ'[i]? = σ[i]?
theorem Off.trans {ws vs : List Nat} {σ σ' σ2 : L2.St} (a : Off ws σ σ') (b : Off vs σ' σ2) : Off (ws ++ vs) σ σ2 :=
  ⟨b.1.trans a.1, fun i h => (b.2 i fun z => h (List.mem_append.mpr (.inr z))).trans (a.2 i fun z => h (List.mem_append.mpr (.inl z)))⟩
/-- what slots have as their own is what they had -/
def OwnK (Γ Γ' : En) (σ σ' : L2.St) : Prop := ∀ (j : Nat) (e : D), Γ'[j]? = some (.own e) → Γ[j]? = some (.own e) ∧ σ'[j]? = σ[j]?
theorem OwnK.trans {Γ Γ' Γ2 : En} {σ σ' σ2 : L2.St} (a : OwnK Γ Γ' σ σ') (b : OwnK Γ' Γ2 σ' σ2) : OwnK Γ Γ2 σ σ2 := fun j e h =>
  ⟨(a j e (b j e h).1).1, (b j e h).2.trans (a j e (b j e h).1).2⟩
def rdG (K : PySem.W.Frag) (ws : List Nat) (g : MG) : TG := fun v σ H Q => ∃ H0 F Γ d Γ', Rel K H0 F H σ Γ ∧ Rep K F v d ∧ g d Γ = some Γ' ∧ ∀ σ', Rel K H0 F H σ' Γ' → Off ws σ σ' → OwnK Γ Γ' σ σ' → Q σ' H
def rdGs (K : PySem.W.Frag) (ws : List Nat) (g : MGs) : TGs := fun vs σ H Q => ∃ H0 F Γ ds Γ', Rel K H0 F H σ Γ ∧ RepL K F vs ds ∧ g ds Γ = some Γ' ∧ ∀ σ', Rel K H0 F H σ' Γ' → Off ws σ σ' → OwnK Γ Γ' σ σ' → Q σ' H
def gN (i : Nat) : MG := fun d Γ => some (Γ.set i (.val d))
def gsN : MGs := fun ds Γ => match ds with
  | [] => some Γ
  | _ => none
def gsC (g : MG) (r : MGs) : MGs := fun ds Γ => match ds with
  | d :: ds => (g d Γ).bind fun Γ' => r ds Γ'
  | [] => none
def gT (r : MGs) : MG := fun d Γ => match d with
  | .tup ds => r ds Γ
  | _ => none
def gL (r : MGs) : MG := fun d Γ => match d with
  | .lst ds => r ds Γ
  | _ => none
/-- how many targets -/
inductive GLen : MGs → Nat → Prop
  | nil : GLen gsN 0
  | cons {g : MG} {r : MGs} {n : Nat} : GLen r n → GLen (gsC g r) (n + 1)
theorem GLen.eq : ∀ {r : MGs} {n : Nat}, GLen r n → ∀ {ds : List D} {Γ Γ' : En}, r ds Γ = some Γ' → ds.length = n
  | _, _, .nil, ds, Γ, Γ', e => by
    cases ds with
    | nil => rfl
    | cons => cases e
  | _, _, .cons h, ds, Γ, Γ', e => by
    cases ds with
    | nil => cases e
    | cons d ds =>
      obtain ⟨Γ1, _, e⟩ := Option.bind_eq_some_iff.mp e
      rw [List.length_cons, h.eq e]
section
variable {X : Cx} {x : Str} {pos : Pos} {e : Expr} {es : List Expr} {g : MG} {gs : MGs}
theorem PG_wk {t t' : TG} (h : PG X e t) (w : ∀ v σ H Q, t' v σ H Q → t v σ H Q) : PG X e t' := ⟨fun pins s σ H v u Q I r q => h.run pins s σ H v u Q I r (w _ _ _ _ q)⟩
theorem PGs_wk {t t' : TGs} (h : PGs X es t) (w : ∀ v σ H Q, t' v σ H Q → t v σ H Q) : PGs X es t' := ⟨fun pins s σ H v u Q I r q => h.run pins s σ H v u Q I r (w _ _ _ _ q)⟩
theorem g_n (i : Nat) (hN : X.N.Nodup) (hi : X.N[i]? = some x := by rfl) (hx : Loc X.env.scope x := by first | exact Or.inl rfl | exact Or.inr rfl) (hf : X.fn x = true ∨ X.env.scope.names.lookup x = some .local := by first | exact .inl rfl | exact .inr rfl | assumption) : PG X (.Name x pos) (rdG X.K [i] (gN i)) :=
  PG_wk (pg_name hN hi hx hf) fun v σ H Q ⟨H0, F, Γ, d, Γ', R, r, z, q⟩ => by
    cases z
    exact q _ (R.setVal i r) ⟨List.length_set, fun j h => get_set_ne fun z => h (by rw [z]; exact List.mem_singleton.mpr rfl)⟩ (fun j e h => by
      rcases set_get h with ⟨_, h, _⟩ | ⟨n, h⟩
      · cases h
      · exact ⟨h, get_set_ne n⟩)
theorem gs_n : PGs X [] (rdGs X.K [] gsN) := PGs_wk pgs_nil fun v σ H Q ⟨H0, F, Γ, ds, Γ', R, r, z, q⟩ => by
  unfold gsN at z
  split at z
  · cases z; cases r; exact ⟨rfl, q _ R ⟨rfl, fun _ _ => rfl⟩ fun _ _ h => ⟨h, rfl⟩⟩
  · cases z
theorem gs_c {ws vs : List Nat} (h1 : PG X e (rdG X.K ws g)) (h2 : PGs X es (rdGs X.K vs gs)) (hs : (assignEach (e :: es) X.env).map (·.2) = assign e X.env :: (assignEach es X.env).map (·.2) := by rfl) : PGs X (e :: es) (rdGs X.K (ws ++ vs) (gsC g gs)) :=
  PGs_wk (pgs_cons h1 h2 hs) fun v σ H Q ⟨H0, F, Γ, ds, Γ', R, r, z, q⟩ => by
    unfold gsC at z
    split at z
    · obtain ⟨Γ1, e1, z⟩ := Option.bind_eq_some_iff.mp z
      cases r with
      | cons h r => exact ⟨_, _, rfl, H0, F, Γ, _, Γ1, R, h, e1, fun σ' R' o1 k1 => ⟨H0, F, Γ1, _, Γ', R', r, z, fun σ'' R'' o2 k2 => q σ'' R'' (o1.trans o2) (k1.trans k2)⟩⟩
    · cases z
theorem g_t {k n : Nat} {ws : List Nat} (hc : X.calm = true) (h : PGs X es (rdGs X.K ws gs)) (hl : GLen gs n := by repeat' constructor) (hn : (assignEach es X.env).length = n := by rfl) (hst : (assignEach es X.env).findIdx? (·.1) = none := by rfl) : PG X (.Tuple es k pos) (rdG X.K ws (gT gs)) :=
  PG_wk (pg_tup hc h hn hst) fun v σ H Q ⟨H0, F, Γ, d, Γ', R, r, z, q⟩ => by
    unfold gT at z
    split at z
    · obtain ⟨a, vs, rfl, h1, r1⟩ := r.tupI
      exact ⟨a, vs, rfl, .of (R.fh _ _ h1), by rw [r1.length]; exact hl.eq z, H0, F, Γ, _, Γ', R, r1, z, q⟩
    · cases z
theorem g_l {k n : Nat} {ws : List Nat} (hc : X.calm = true) (h : PGs X es (rdGs X.K ws gs)) (hl : GLen gs n := by repeat' constructor) (hn : (assignEach es X.env).length = n := by rfl) (hst : (assignEach es X.env).findIdx? (·.1) = none := by rfl) : PG X (.Tuple es k pos) (rdG X.K ws (gL gs)) :=
  PG_wk (pg_unl hc h hn hst) fun v σ H Q ⟨H0, F, Γ, d, Γ', R, r, z, q⟩ => by
    unfold gL at z
    split at z
    · obtain ⟨a, vs, rfl, h1, r1⟩ := r.lstI
      exact ⟨a, vs, rfl, .of (R.fh _ _ h1), by rw [r1.length]; exact hl.eq z, H0, F, Γ, _, Γ', R, r1, z, q⟩
    · cases z
end

/-! ### statements -/
inductive Fl where
  | nx | bk | ct | rt (d : D)
abbrev MS := En → Option (Fl × En)
def Fin (K : PySem.W.Frag) (D0 : Ends) (σ : L2.St) (H F : Hp) : Fl → Prop
  | .nx => D0.nx σ H
  | .bk => D0.bk σ H
  | .ct => D0.ct σ H
  | .rt d => ∀ v F' H', Ext F H F' H' → Rep K F' v d → D0.rt v H'
/-- F grows, by what is new since the entry -/
def Grow (H0 F F' : Hp) : Prop := Same F F' ∧ ∀ b o, F' b = some o → F b = none → H0 b = none
theorem Grow.refl {H0 F : Hp} : Grow H0 F F := ⟨.refl _, fun b o e n => (by rw [n] at e; cases e)⟩
theorem Grow.trans {H0 F F' F2 : Hp} (a : Grow H0 F F') (b : Grow H0 F' F2) : Grow H0 F F2 := by
  refine ⟨a.1.trans b.1, fun c o e n => ?_⟩
  cases q : F' c with
  | none => exact b.2 c o e q
  | some u => exact a.2 c u q n
theorem Grow.ext {H0 F H F' H' : Hp} (s : Same H0 H) (E : Ext F H F' H') : Grow H0 F F' := ⟨E.f, fun b o e n => s.free (E.new b o e n)⟩
def rdS (K : PySem.W.Frag) (H0 : Hp) (m : MS) : TS := fun D0 σ H => ∃ F Γ fl Γ', Rel K H0 F H σ Γ ∧ m Γ = some (fl, Γ') ∧ ∀ σ' H' F', Grow H0 F F' → Rel K H0 F' H' σ' Γ' → Fin K D0 σ' H' F' fl
def sNx : MS := fun Γ => some (.nx, Γ)
def sBk : MS := fun Γ => some (.bk, Γ)
def sCt : MS := fun Γ => some (.ct, Γ)
def sSq (a b : MS) : MS := fun Γ => match a Γ with
  | some (.nx, Γ') => b Γ'
  | r => r
def sRt (m : ME) : MS := fun Γ => (m Γ).map fun d => (.rt d, Γ)
def sIf (c : MT) (a b : MS) : MS := fun Γ => (c Γ).bind fun t => if t then a Γ else b Γ
def sSet (i : Nat) (m : MX) : MS := fun Γ => (m Γ).map fun s => (.nx, Γ.set i s)
def sTg (g : MG) (m : ME) : MS := fun Γ => (m Γ).bind fun d => (g d Γ).map fun Γ' => (.nx, Γ')
def sPar (i j : Nat) (a b : MX) : MS := fun Γ => (a Γ).bind fun s => (b Γ).map fun t => (.nx, (Γ.set i s).set j t)
def sFrz (i : Nat) (a : MS) : MS := fun Γ => a (frz1 i Γ)
def sDrop (m : ME) : MS := fun Γ => (m Γ).map fun _ => (.nx, Γ)
section
variable {X : Cx} {H0 : Hp} {st : Stmt} {rest body other : List Stmt} {e c a b : Expr} {pos : Pos} {m n : MS} {me : ME} {mt : MT} {mx my : MX} {g : MG}
theorem PS_wk {t t' : TS} (h : PS X st t) (w : ∀ D0 σ H, t' D0 σ H → t D0 σ H) : PS X st t' := ⟨fun pins s σ H D0 I q => h.run pins s σ H D0 I (w _ _ _ q)⟩
theorem PSs_wk {t t' : TS} (h : PSs X rest t) (w : ∀ D0 σ H, t' D0 σ H → t D0 σ H) : PSs X rest t' := ⟨fun pins s σ H D0 I q => h.run pins s σ H D0 I (w _ _ _ q)⟩
theorem s_nil : PSs X [] (rdS X.K H0 sNx) := PSs_wk pss_nil fun D0 σ H ⟨F, Γ, fl, Γ', R, z, q⟩ => by cases z; exact q σ H F .refl R
theorem s_one (h : PS X st (rdS X.K H0 m)) : PSs X [st] (rdS X.K H0 m) := pss_one h
theorem s_cons (h1 : PS X st (rdS X.K H0 m)) (h2 : PSs X rest (rdS X.K H0 n)) : PSs X (st :: rest) (rdS X.K H0 (sSq m n)) :=
  PSs_wk (pss_cons h1 h2) fun D0 σ H ⟨F, Γ, fl, Γ', R, z, q⟩ => by
    unfold sSq at z
    split at z
    · rename_i Γ1 e1
      exact ⟨F, Γ, .nx, Γ1, R, e1, fun σ1 H1 F1 G1 R1 => ⟨F1, Γ1, fl, Γ', R1, z, fun σ2 H2 F2 G2 R2 => q σ2 H2 F2 (G1.trans G2) R2⟩⟩
    · rename_i hn
      refine ⟨F, Γ, fl, Γ', R, z, fun σ1 H1 F1 G1 R1 => ?_⟩
      cases fl with
      | nx => exact (hn _ z).elim
      | bk => exact q σ1 H1 F1 G1 R1
      | ct => exact q σ1 H1 F1 G1 R1
      | rt d => exact q σ1 H1 F1 G1 R1
theorem s_pass : PS X (.Pass pos) (rdS X.K H0 sNx) := PS_wk ps_pass fun D0 σ H ⟨F, Γ, fl, Γ', R, z, q⟩ => by cases z; exact q σ H F .refl R
theorem s_break : PS X (.Break pos) (rdS X.K H0 sBk) := PS_wk ps_break fun D0 σ H ⟨F, Γ, fl, Γ', R, z, q⟩ => by cases z; exact q σ H F .refl R
theorem s_cont : PS X (.Continue pos) (rdS X.K H0 sCt) := PS_wk ps_continue fun D0 σ H ⟨F, Γ, fl, Γ', R, z, q⟩ => by cases z; exact q σ H F .refl R
theorem s_ret (he : PE X e (rdE X.K me)) : PS X (.Return (some e) pos) (rdS X.K H0 (sRt me)) :=
  PS_wk (ps_ret he) fun D0 σ H ⟨F, Γ, fl, Γ', R, z, q⟩ => by
    obtain ⟨d, e1, z⟩ := Option.map_eq_some_iff.mp z
    cases z
    exact ⟨H0, F, Γ, d, R, e1, fun v H' F' E r => q σ H F .refl R v F' H' E r⟩
theorem s_retN : PS X (.Return none pos) (rdS X.K H0 (sRt (mC .non))) :=
  PS_wk ps_retN fun D0 σ H ⟨F, Γ, fl, Γ', R, z, q⟩ => by
    cases z
    exact q σ H F .refl R .non F H (.refl R.fh) .non
theorem s_if (hc : PT X c (rdT X.K mt)) (ha : PSs X body (rdS X.K H0 m)) (hb : PSs X other (rdS X.K H0 n)) : PS X (.If c body other pos) (rdS X.K H0 (sIf mt m n)) :=
  PS_wk (ps_if hc ha hb) fun D0 σ H ⟨F, Γ, fl, Γ', R, z, q⟩ => by
    obtain ⟨t, e1, z⟩ := Option.bind_eq_some_iff.mp z
    refine ⟨H0, F, Γ, t, R, e1, fun H1 F1 E1 => ?_⟩
    have G := Grow.ext R.h0 E1
    cases t with
    | true => exact iteT ⟨F1, Γ, fl, Γ', R.ext E1, z, fun σ2 H2 F2 G2 R2 => q σ2 H2 F2 (G.trans G2) R2⟩
    | false => exact iteF ⟨F1, Γ, fl, Γ', R.ext E1, z, fun σ2 H2 F2 G2 R2 => q σ2 H2 F2 (G.trans G2) R2⟩
theorem asgX {σ H} {D0 : Ends} {i : Nat} (h : rdS X.K H0 (sSet i mx) D0 σ H) : tAsg (rdX X.K mx) (gName i) D0 σ H := by
  obtain ⟨F, Γ, fl, Γ', R, z, q⟩ := h
  obtain ⟨s, e1, z⟩ := Option.map_eq_some_iff.mp z
  cases z
  exact ⟨H0, F, Γ, s, R, e1, fun v H' F' E r => q _ H' F' (Grow.ext R.h0 E) (R.setX E r i)⟩
theorem s_set (i : Nat) {x : Str} {pos' : Pos} (hN : X.N.Nodup) (he : PE X e (rdX X.K mx)) (hi : X.N[i]? = some x := by rfl) (hx : Loc X.env.scope x := by first | exact Or.inl rfl | exact Or.inr rfl) (hs : swapsWith e (some (.Name x pos')) pos.line X.env = pure false := by rfl)
    (hf : X.fn x = true ∨ X.env.scope.names.lookup x = some .local := by first | exact .inl rfl | exact .inr rfl | assumption) : PS X (.Assign [.Name x pos'] e pos) (rdS X.K H0 (sSet i mx)) :=
  PS_wk (ps_set hN hi hx he hs hf) fun D0 σ H h => asgX h
/-- (a, b, ..) = e -/
theorem s_tg {tg : Expr} {ws : List Nat} (he : PE X e (rdE X.K me)) (hg : PG X tg (rdG X.K ws g)) (hs : swapsWithSole [tg] e pos.line X.env = pure false := by rfl) (hw : swappedStores [tg] e X.env = pure none := by rfl)
    (h1 : (assignEach [tg] X.env).map (·.2) = [assign tg X.env] := by rfl) : PS X (.Assign [tg] e pos) (rdS X.K H0 (sTg g me)) :=
  PS_wk (ps_asg he hg hs hw h1) fun D0 σ H ⟨F, Γ, fl, Γ', R, z, q⟩ => by
    obtain ⟨d, e1, z⟩ := Option.bind_eq_some_iff.mp z
    obtain ⟨Γ1, e2, z⟩ := Option.map_eq_some_iff.mp z
    cases z
    exact ⟨H0, F, Γ, d, R, e1, fun v H' F' E r => ⟨H0, F', Γ, d, _, R.ext E, r, e2, fun σ' R' _ _ => q σ' H' F' (Grow.ext R.h0 E) R'⟩⟩
/-- a, b = x, y: stored from the right -/
theorem s_par (i j : Nat) {x y : Str} {px py pt : Pos} {kt k2 pt2} (hc : X.calm = true) (hN : X.N.Nodup) (ha : PE X a (rdX X.K mx)) (hb : PE X b (rdX X.K my))
    (hw : swappedStores [.Tuple [.Name x px, .Name y py] kt pt] (.Tuple [a, b] k2 pt2) X.env = pure (some [x, y])) (hi : X.N[i]? = some x := by rfl) (hj : X.N[j]? = some y := by rfl) (hij : i ≠ j := by decide)
    (hx : X.env.scope.names.lookup x = some .local := by rfl) (hy : X.env.scope.names.lookup y = some .local := by rfl)
    (hs : swapsWithSole [.Tuple [.Name x px, .Name y py] kt pt] (.Tuple [a, b] k2 pt2) pos.line X.env = pure false := by rfl) (na : starEach [a, b] X.env = (false, eval a X.env) :: starEach [b] X.env := by rfl)
    (nb : starEach [b] X.env = (false, eval b X.env) :: starEach [] X.env := by rfl) : PS X (.Assign [.Tuple [.Name x px, .Name y py] kt pt] (.Tuple [a, b] k2 pt2) pos) (rdS X.K H0 (sPar i j mx my)) :=
  PS_wk (ps_par hc hN hi hj hij hx hy (pa_cons ha (pa_cons hb pa_nil nb) na) hw hs) fun D0 σ H ⟨F, Γ, fl, Γ', R, z, q⟩ => by
    obtain ⟨s, e1, z⟩ := Option.bind_eq_some_iff.mp z
    obtain ⟨t, e2, z⟩ := Option.map_eq_some_iff.mp z
    cases z
    refine ⟨H0, F, Γ, s, R, e1, fun v H1 F1 E1 r1 => ⟨H0, F1, Γ, t, R.ext E1, e2, fun w H2 F2 E2 r2 => ⟨v, w, rfl, ?_⟩⟩⟩
    exact q _ H2 F2 ((Grow.ext R.h0 E1).trans (Grow.ext (R.h0.trans E1.h) E2)) ((R.setX E1 r1 i).setX E2 r2 j)
theorem s_frz (i : Nat) (h : PS X st (rdS X.K H0 m)) : PS X st (rdS X.K H0 (sFrz i m)) :=
  PS_wk h fun D0 σ H ⟨F, Γ, fl, Γ', R, z, q⟩ => by
    obtain ⟨F1, s1, n1, R1⟩ := R.freeze i
    exact ⟨F1, frz1 i Γ, fl, Γ', R1, z, fun σ2 H2 F2 G2 R2 => q σ2 H2 F2 (Grow.trans ⟨s1, n1⟩ G2) R2⟩
theorem s_expr (he : PE X e (rdE X.K me)) (hs : swapsWith e none pos.line X.env = pure false := by rfl) : PS X (.Expr e pos) (rdS X.K H0 (sDrop me)) :=
  PS_wk (ps_expr he hs) fun D0 σ H ⟨F, Γ, fl, Γ', R, z, q⟩ => by
    obtain ⟨d, e1, z⟩ := Option.map_eq_some_iff.mp z
    cases z
    exact ⟨H0, F, Γ, d, R, e1, fun v H' F' E r => q σ H' F' (Grow.ext R.h0 E) (R.ext E)⟩
/-! name op= e -/
def sAug (i : Nat) (f : D → D → Option D) (m : ME) : MS := fun Γ => (mVar i Γ).bind fun x => (m Γ).bind fun y => (f x y).map fun z => (.nx, Γ.set i (.val z))
theorem s_aug (i : Nat) {x : Str} {op : Operator} {f : D → D → Option D} {r : R2} {pos' : Pos} (hN : X.N.Nodup) (ho : OpR X (inplaceOp op) r) (hf' : Op2 X.K f r) (he : PE X e (rdB X.K me)) (hi : X.N[i]? = some x := by rfl) (hx : Loc X.env.scope x := by first | exact Or.inl rfl | exact Or.inr rfl)
    (hf : X.fn x = true ∨ X.env.scope.names.lookup x = some .local := by first | exact .inl rfl | exact .inr rfl | assumption) : PS X (.AugAssign (.Name x pos') op e pos) (rdS X.K H0 (sAug i f me)) :=
  PS_wk (ps_aug hN hi hx he ho hf) fun D0 σ H ⟨F, Γ, fl, Γ', R, z, q⟩ => by
    obtain ⟨dx, e1, z⟩ := Option.bind_eq_some_iff.mp z
    obtain ⟨dy, e2, z⟩ := Option.bind_eq_some_iff.mp z
    obtain ⟨dz, e3, z⟩ := Option.map_eq_some_iff.mp z
    cases z
    unfold mVar at e1
    split at e1
    · rename_i d' hd
      cases e1
      obtain ⟨v, h1, h2⟩ := R.valAt hd
      refine ⟨v, h1, H0, F, Γ, dy, R, e2, fun w H1 F1 E1 r1 => hf' F1 H1 v w _ dy dz _ E1.fh (.inl (h2.mono E1.f)) r1 e3 fun u H' F' E2 r2 => ?_⟩
      exact q _ H' F' ((Grow.ext R.h0 E1).trans (Grow.ext (R.h0.trans E1.h) E2)) (((R.ext E1).ext E2).setVal i r2)
    · cases e1
end
end SK

set_option Elab.async false
set_option linter.all false
set_option maxRecDepth 100000
set_option maxHeartbeats 4000000
set_option autoImplicit false
namespace SK
open PySem PySem.Spec PyProof.Rows L2

/-! ### while, for -/
def mWh (c : MT) (b : MS) : Nat → MS
  | 0, _ => none
  | n + 1, Γ => (c Γ).bind fun t => if t then (match b Γ with
      | some (.nx, Γ1) => mWh c b n Γ1
      | some (.ct, Γ1) => mWh c b n Γ1
      | some (.bk, Γ1) => some (.nx, Γ1)
      | r => r) else some (.nx, Γ)
def mFor (g : MG) (b : MS) : List D → MS
  | [], Γ => some (.nx, Γ)
  | x :: xs, Γ => (g x Γ).bind fun Γ1 => match b Γ1 with
      | some (.nx, Γ2) => mFor g b xs Γ2
      | some (.ct, Γ2) => mFor g b xs Γ2
      | some (.bk, Γ2) => some (.nx, Γ2)
      | r => r
def sFor (ml : ML) (g : MG) (b : MS) : MS := fun Γ => (ml Γ).bind fun xs => mFor g b xs Γ
section
variable {X : Cx} {H0 : Hp} {body : List Stmt} {tg iter c : Expr} {pos : Pos} {m : MS} {mt : MT} {g : MG} {ml : ML} {ws : List Nat}
theorem s_while (N : Nat) (hp : PassesOwn (model X.prog X.w) X.A X.env X.xe) (hc : PT X c (rdT X.K mt)) (hb : PSs X body (rdS X.K H0 m)) : PS X (.While c body [] pos) (rdS X.K H0 (mWh mt m N)) :=
  PS_wk (ps_while hp hc hb) fun D0 σ H h => by
    refine ⟨fun k σ H => rdS X.K H0 (mWh mt m k) D0 σ H, ⟨N, h⟩, fun k σ H h => ?_⟩
    obtain ⟨F, Γ, fl, Γ', R, z, q⟩ := h
    cases k with
    | zero => cases z
    | succ k =>
      obtain ⟨t, e1, z⟩ := Option.bind_eq_some_iff.mp z
      refine ⟨H0, F, Γ, t, R, e1, fun H1 F1 E1 => ?_⟩
      have G := Grow.ext R.h0 E1
      cases t with
      | false =>
        cases z
        exact iteF (q σ H1 F1 G (R.ext E1))
      | true =>
        refine iteT ⟨fun σ H => rdS X.K H0 (mWh mt m k) D0 σ H, fun σ' H' h => ⟨k, Nat.lt_succ_self _, h⟩, ?_⟩
        have z' : (match m Γ with
      | some (.nx, Γ1) => mWh mt m k Γ1
      | some (.ct, Γ1) => mWh mt m k Γ1
      | some (.bk, Γ1) => some (.nx, Γ1)
      | r => r) = some (fl, Γ') := z
        split at z'
        · rename_i Γ1 e2
          exact ⟨F1, Γ, .nx, Γ1, R.ext E1, e2, fun σ2 H2 F2 G2 R2 => ⟨F2, Γ1, fl, Γ', R2, z', fun σ3 H3 F3 G3 R3 => q σ3 H3 F3 ((G.trans G2).trans G3) R3⟩⟩
        · rename_i Γ1 e2
          exact ⟨F1, Γ, .ct, Γ1, R.ext E1, e2, fun σ2 H2 F2 G2 R2 => ⟨F2, Γ1, fl, Γ', R2, z', fun σ3 H3 F3 G3 R3 => q σ3 H3 F3 ((G.trans G2).trans G3) R3⟩⟩
        · rename_i Γ1 e2
          cases z'
          exact ⟨F1, Γ, .bk, _, R.ext E1, e2, fun σ2 H2 F2 G2 R2 => q σ2 H2 F2 (G.trans G2) R2⟩
        · rename_i h1 h2 h3
          cases fl with
          | nx => exact (h1 _ z').elim
          | ct => exact (h2 _ z').elim
          | bk => exact (h3 _ z').elim
          | rt d => exact ⟨F1, Γ, .rt d, Γ', R.ext E1, z', fun σ2 H2 F2 G2 R2 => q σ2 H2 F2 (G.trans G2) R2⟩
theorem s_for (hp : PassesOwn (model X.prog X.w) X.A X.env X.xe) (hc : X.calm = true) (hi : PI X tg iter (rdI X.K ml)) (hg : PG X tg (rdG X.K ws g)) (hb : PSs X body (rdS X.K H0 m))
    (hs : ∀ x, foldedSetIterable iter X.env x = pure x := by intro _; rfl) : PS X (.For tg iter body [] pos) (rdS X.K H0 (sFor ml g m)) :=
  PS_wk (ps_for hp hc hi hg hb hs) fun D0 σ H ⟨F, Γ, fl, Γ', R, z, q⟩ => by
    obtain ⟨xs, e1, z⟩ := Option.bind_eq_some_iff.mp z
    refine ⟨H0, F, Γ, xs, R, e1, fun J H1 F1 E1 ok => ?_⟩
    refine ⟨fun i k σ H => i + k = xs.length ∧ ∃ F2 Γ2, Same F1 F2 ∧ Rel X.K H0 F2 H σ Γ2 ∧ mFor g m (xs.drop i) Γ2 = some (fl, Γ') ∧ (∀ σ' H' F', Grow H0 F2 F' → Rel X.K H0 F' H' σ' Γ' → Fin X.K D0 σ' H' F' fl),
      ⟨xs.length, by omega, F1, Γ, .refl _, R.ext E1, by rw [List.drop_zero]; exact z, fun σ' H' F' G R' => q σ' H' F' ((Grow.ext R.h0 E1).trans G) R'⟩, fun i k σ H h => ?_⟩
    obtain ⟨hk, F2, Γ2, sF, R2, z2, q2⟩ := h
    by_cases hi : i < xs.length
    · rw [List.drop_eq_getElem_cons hi] at z2
      obtain ⟨Γ3, e3, z2⟩ := Option.bind_eq_some_iff.mp z2
      obtain ⟨gg, yy⟩ := ok.go F2 H i xs[i] sF R2.fh (List.getElem?_eq_getElem hi)
      refine .inr ⟨gg, ?_⟩
      refine ⟨fun σ H => ∃ k', k' < k ∧ (i + 1) + k' = xs.length ∧ ∃ F2 Γ2, Same F1 F2 ∧ Rel X.K H0 F2 H σ Γ2 ∧ mFor g m (xs.drop (i + 1)) Γ2 = some (fl, Γ') ∧ (∀ σ' H' F', Grow H0 F2 F' → Rel X.K H0 F' H' σ' Γ' → Fin X.K D0 σ' H' F' fl),
        fun σ' H' ⟨k', h1, h2, h3⟩ => ⟨k', h1, h2, h3⟩, fun x H' y => ?_⟩
      obtain ⟨F4, E4, r4⟩ := yy x H' y
      refine ⟨H0, F4, Γ2, xs[i], Γ3, R2.ext E4, r4, e3, fun σ5 R5 _ _ => ?_⟩
      have G4 := Grow.ext R2.h0 E4
      have z' : (match m Γ3 with
      | some (.nx, Γ2) => mFor g m (xs.drop (i + 1)) Γ2
      | some (.ct, Γ2) => mFor g m (xs.drop (i + 1)) Γ2
      | some (.bk, Γ2) => some (.nx, Γ2)
      | r => r) = some (fl, Γ') := z2
      split at z'
      · rename_i Γ6 e6
        exact ⟨F4, Γ3, .nx, Γ6, R5, e6, fun σ7 H7 F7 G7 R7 => ⟨k - 1, by omega, by omega, F7, Γ6, (sF.trans G4.1).trans G7.1, R7, z', fun σ' H' F' G R' => q2 σ' H' F' ((G4.trans G7).trans G) R'⟩⟩
      · rename_i Γ6 e6
        exact ⟨F4, Γ3, .ct, Γ6, R5, e6, fun σ7 H7 F7 G7 R7 => ⟨k - 1, by omega, by omega, F7, Γ6, (sF.trans G4.1).trans G7.1, R7, z', fun σ' H' F' G R' => q2 σ' H' F' ((G4.trans G7).trans G) R'⟩⟩
      · rename_i Γ6 e6
        cases z'
        exact ⟨F4, Γ3, .bk, _, R5, e6, fun σ7 H7 F7 G7 R7 => q2 σ7 H7 F7 (G4.trans G7) R7⟩
      · rename_i h1 h2 h3
        cases fl with
        | nx => exact (h1 _ z').elim
        | ct => exact (h2 _ z').elim
        | bk => exact (h3 _ z').elim
        | rt d => exact ⟨F4, Γ3, .rt d, Γ', R5, z', fun σ7 H7 F7 G7 R7 => q2 σ7 H7 F7 (G4.trans G7) R7⟩
    · have hl : i = xs.length := by omega
      subst hl
      rw [List.drop_length] at z2
      cases z2
      exact .inl ⟨ok.stop F2 H sF R2.fh, q2 σ H F2 .refl R2⟩
end

/-! ### a list of one's own is changed -/
def ownL (i : Nat) (Γ : En) : Option (List D) := match Γ[i]? with
  | some (.own (.lst xs)) => some xs
  | _ => none
theorem ownL_at {i : Nat} {Γ : En} {xs : List D} (h : ownL i Γ = some xs) : Γ[i]? = some (.own (.lst xs)) := by
  unfold ownL at h
  split at h
  · rename_i e
    cases h
    exact e
  · cases h
def sApp (i : Nat) (m : ME) : MS := fun Γ => (ownL i Γ).bind fun xs => (m Γ).bind fun d => if xs.length < LIM then some (.nx, Γ.set i (.own (.lst (xs ++ [d])))) else none
def lstOf : D → Option (List D)
  | .lst xs => some xs
  | _ => none
def sExt (i : Nat) (m : ME) : MS := fun Γ => (ownL i Γ).bind fun xs => ((m Γ).bind lstOf).bind fun ys => if xs.length + ys.length ≤ LIM then some (.nx, Γ.set i (.own (.lst (xs ++ ys)))) else none
def sSetIx (i : Nat) (k m : ME) : MS := fun Γ => (ownL i Γ).bind fun xs => (m Γ).bind fun d => ((k Γ).bind dI).bind fun n => (ixN xs.length n).map fun j => (.nx, Γ.set i (.own (.lst (xs.set j d))))
def sAugIx (i : Nat) (k : ME) (f : D → D → Option D) (m : ME) : MS := fun Γ => (ownL i Γ).bind fun xs => ((k Γ).bind dI).bind fun n => (ixN xs.length n).bind fun j => (xs[j]?).bind fun x => (m Γ).bind fun y => (f x y).map fun z => (.nx, Γ.set i (.own (.lst (xs.set j z))))
theorem if_someP {α : Type} {c : Prop} [Decidable c] {a b : α} (h : (if c then some a else none) = some b) : c ∧ b = a := by
  by_cases hc : c
  · rw [if_pos hc] at h; exact ⟨hc, (Option.some.inj h).symm⟩
  · rw [if_neg hc] at h; cases h
theorem Rel.lstAt {K : PySem.W.Frag} {H0 F H : Hp} {σ : L2.St} {Γ : En} (R : Rel K H0 F H σ Γ) {i : Nat} {xs : List D} (h : ownL i Γ = some xs) : ∃ a vs, Γ[i]? = some (.own (.lst xs)) ∧ σ[i]? = some (some (.ref a)) ∧ H a = some (.lst vs) ∧ F a = none ∧ RepL K F vs xs := by
  have hi := ownL_at h
  obtain ⟨_, a, ob, h1, h2, h3, h4, h5⟩ := R.ownAt hi
  cases h5 with
  | lst r => exact ⟨a, _, hi, h1, h4, h2, r⟩
section
variable {X : Cx} {H0 : Hp} {e k : Expr} {x : Str} {p apos cpos pos : Pos} {me mk : ME}
/-- st: xs.append(e); h: ps_expr (pe_bm .. mt_append (pv i) (pa_cons he pa_nil)) -/
theorem s_app {st : Stmt} {i : Nat} (h : PS X st (tDrop (tBM X.K "list" rAppend (tVar i) (tCons (rdE X.K me) tNil)))) : PS X st (rdS X.K H0 (sApp i me)) :=
  PS_wk h fun D0 σ H ⟨F, Γ, fl, Γ', R, z, q⟩ => by
    obtain ⟨xs, e1, z⟩ := Option.bind_eq_some_iff.mp z
    obtain ⟨d, e2, z⟩ := Option.bind_eq_some_iff.mp z
    obtain ⟨c, z⟩ := if_someP z
    cases z
    obtain ⟨a, vs, hi, h1, h2, h3, r⟩ := R.lstAt e1
    refine ⟨.ref a, h1, .inl ⟨rfl, vs, .of h2⟩, H0, F, Γ, d, R, e2, fun v H1 F1 E1 rv => ?_⟩
    refine ⟨a, vs, v, rfl, rfl, E1.h _ _ h2, by rw [r.length, ← lim_line]; exact c, ?_⟩
    exact q σ _ F1 (Grow.ext R.h0 E1) ((R.ext E1).updOwn hi h1 rfl (.lst ((r.mono E1.f).append (.cons rv .nil))))
theorem s_ext {st : Stmt} {i : Nat} (h : PS X st (tDrop (tBM X.K "list" rExtend (tVar i) (tCons (rdB X.K me) tNil)))) : PS X st (rdS X.K H0 (sExt i me)) :=
  PS_wk h fun D0 σ H ⟨F, Γ, fl, Γ', R, z, q⟩ => by
    obtain ⟨xs, e1, z⟩ := Option.bind_eq_some_iff.mp z
    obtain ⟨ys, e3, z⟩ := Option.bind_eq_some_iff.mp z
    obtain ⟨d, e2, e4⟩ := Option.bind_eq_some_iff.mp e3
    obtain ⟨c, z⟩ := if_someP z
    cases z
    obtain ⟨a, vs, hi, h1, h2, h3, r⟩ := R.lstAt e1
    refine ⟨.ref a, h1, .inl ⟨rfl, vs, .of h2⟩, H0, F, Γ, d, R, e2, fun v H1 F1 E1 rv => ?_⟩
    unfold lstOf at e4
    split at e4
    · cases e4
      obtain ⟨b, ws, rfl, g1, g2⟩ := rv.lst E1.fh
      refine ⟨a, b, vs, ws, rfl, rfl, E1.h _ _ h2, g1, by rw [r.length, g2.length, ← lim_line]; exact c, ?_⟩
      have r2 := (r.mono E1.f).append g2
      exact q σ _ F1 (Grow.ext R.h0 E1) ((R.ext E1).updOwn hi h1 rfl (.lst r2))
    · cases e4
/-- xs[k] = e; h: ps_asg he (pg_sub (pv i) hk set_list) -/
theorem s_setIx {st : Stmt} {i : Nat} (h : PS X st (tAsg (rdE X.K me) (gSub (tVar i) (rdB X.K mk) rSetL))) : PS X st (rdS X.K H0 (sSetIx i mk me)) :=
  PS_wk h fun D0 σ H ⟨F, Γ, fl, Γ', R, z, q⟩ => by
    obtain ⟨xs, e1, z⟩ := Option.bind_eq_some_iff.mp z
    obtain ⟨d, e2, z⟩ := Option.bind_eq_some_iff.mp z
    obtain ⟨n, e3, z⟩ := Option.bind_eq_some_iff.mp z
    obtain ⟨dk, e4, e6⟩ := Option.bind_eq_some_iff.mp e3
    rw [dI_some e6] at e4
    obtain ⟨j, e5, z⟩ := Option.map_eq_some_iff.mp z
    cases z
    obtain ⟨a, vs, hi, h1, h2, h3, r⟩ := R.lstAt e1
    refine ⟨H0, F, Γ, d, R, e2, fun v H1 F1 E1 rv => ⟨.ref a, h1, H0, F1, Γ, .int n, R.ext E1, e4, fun w H2 F2 E2 rw' => ?_⟩⟩
    have E := E1.trans E2
    refine ⟨a, vs, n, j, rfl, rw'.int, E.h _ _ h2, by rw [r.length]; exact e5, ?_⟩
    have r2 := (r.mono E.f).set j (rv.mono E2.f)
    exact q σ _ F2 (Grow.ext R.h0 E) ((R.ext E).updOwn hi h1 rfl (.lst r2))
def rGetL (K : PySem.W.Frag) : V → V → Hp → VK → Prop := fun x y H Q => ∃ p xs i v, x = .ref p ∧ y = .int i ∧ SqL K H p xs ∧ atI xs i = some v ∧ Q v H
theorem get_list : PGet X (rGetL X.K) := by
  intro pins s σ H x y v u Q I rx ry h
  obtain ⟨p, xs, i, z, rfl, rfl, hq, he, q⟩ := h
  cases rx
  obtain ⟨t, rfl⟩ := ry
  obtain ⟨its, r, pl, hz⟩ := I.list hq
  obtain ⟨j, h1, h2, h3, h4, h5⟩ := atI_get he
  obtain ⟨w, ew, rw'⟩ := r.get h2
  have hl := r.length
  have hn := line63
  by_cases h0 : 0 ≤ i
  · have hj : i.toNat = j := by
      rw [seqIndex_of h0 h5] at h1
      exact Option.some.inj h1
    exact wpAny_getItem_list pl.isList h0 (by omega) (by rw [hj]; simpa using ew) ⟨z, H, I, rw', q⟩
  · have hj : (i + (its.toArray.size : Int)).toNat = j := by
      rw [seqIndex_neg (by omega) h4] at h1
      rw [List.size_toArray, ← hl]
      exact Option.some.inj h1
    exact wpAny_getItem_list_neg pl.isList (by omega) (by rw [List.size_toArray] <;> omega) (by omega) (by rw [hj]; simpa using ew) ⟨z, H, I, rw', q⟩
/-- xs[k] op= e; h: ps_augS (pv i) hk get_list he ho set_list -/
theorem s_augIx {st : Stmt} {i : Nat} {f : D → D → Option D} {r : R2} (hf : Op2 X.K f r) (h : PS X st (tAugS (tVar i) (rdB X.K mk) (rdB X.K me) (rGetL X.K) r rSetL)) : PS X st (rdS X.K H0 (sAugIx i mk f me)) :=
  PS_wk h fun D0 σ H ⟨F, Γ, fl, Γ', R, z, q⟩ => by
    obtain ⟨xs, e1, z⟩ := Option.bind_eq_some_iff.mp z
    obtain ⟨n, e3, z⟩ := Option.bind_eq_some_iff.mp z
    obtain ⟨dk, e4, e6⟩ := Option.bind_eq_some_iff.mp e3
    rw [dI_some e6] at e4
    obtain ⟨j, e5, z⟩ := Option.bind_eq_some_iff.mp z
    obtain ⟨x, ex, z⟩ := Option.bind_eq_some_iff.mp z
    obtain ⟨y, ey, z⟩ := Option.bind_eq_some_iff.mp z
    obtain ⟨u, eu, z⟩ := Option.map_eq_some_iff.mp z
    cases z
    obtain ⟨a, vs, hi, h1, h2, h3, rr⟩ := R.lstAt e1
    refine ⟨.ref a, h1, H0, F, Γ, .int n, R, e4, fun w H1 F1 E1 rw' => ?_⟩
    obtain ⟨vx, g1, g2⟩ := rr.get ex
    refine ⟨a, vs, n, vx, rfl, rw'.int, .of (E1.h _ _ h2), by unfold atI; rw [rr.length, e5]; exact g1, H0, F1, Γ, y, R.ext E1, ey, fun vy H2 F2 E2 ry => ?_⟩
    refine hf F2 H2 vx vy x y u _ E2.fh (.inl ((g2.mono E1.f).mono E2.f)) ry eu fun vu H3 F3 E3 ru => ?_
    have E := (E1.trans E2).trans E3
    refine ⟨a, vs, n, j, rfl, rw'.int, E.h _ _ h2, by rw [rr.length]; exact e5, ?_⟩
    have r2 := (rr.mono E.f).set j ru
    exact q σ _ F3 (Grow.ext R.h0 E) ((R.ext E).updOwn hi h1 rfl (.lst r2))
end
end SK

set_option Elab.async false
set_option linter.all false
set_option maxRecDepth 100000
set_option maxHeartbeats 4000000
set_option autoImplicit false
namespace SK
open PySem PySem.Spec PyProof.Rows L2

/-! ### comprehensions -/
def wipeE (Γ : En) : List Nat → En
  | [] => Γ
  | v :: vs => (wipeE Γ vs).set v .emp
theorem Rel.setEmp {K : PySem.W.Frag} {H0 F H : Hp} {σ : L2.St} {Γ : En} (R : Rel K H0 F H σ Γ) (i : Nat) : Rel K H0 F H (σ.set i none) (Γ.set i .emp) := by
  refine ⟨R.h0, R.fh, by rw [List.length_set, List.length_set]; exact R.len, fun j s hj => ?_, fun j k d1 d2 a h1 h2 h3 h4 => ?_⟩
  · rcases set_get hj with ⟨rfl, rfl, hl⟩ | ⟨hne, hj⟩
    · exact ⟨none, get_set (by rw [R.len]; exact hl), trivial⟩
    · obtain ⟨o, q1, q2⟩ := R.sl j s hj
      exact ⟨o, by rw [get_set_ne hne]; exact q1, q2⟩
  · rcases set_get h1 with ⟨_, e, _⟩ | ⟨n1, h1⟩
    · cases e
    · rcases set_get h2 with ⟨_, e, _⟩ | ⟨n2, h2⟩
      · cases e
      · rw [get_set_ne n1] at h3; rw [get_set_ne n2] at h4
        exact R.sep j k d1 d2 a h1 h2 h3 h4
theorem Rel.wipe {K : PySem.W.Frag} {H0 F H : Hp} {σ : L2.St} {Γ : En} (R : Rel K H0 F H σ Γ) : ∀ vs : List Nat, Rel K H0 F H (L2.wipe σ vs) (wipeE Γ vs)
  | [] => R
  | v :: vs => (Rel.wipe R vs).setEmp v
theorem wipe_at (σ : L2.St) : ∀ (vs : List Nat) (i : Nat), (L2.wipe σ vs)[i]? = if i ∈ vs then (if i < σ.length then some none else none) else σ[i]?
  | [], i => by simp [L2.wipe]
  | v :: vs, i => by
    show ((L2.wipe σ vs).set v none)[i]? = _
    rw [List.getElem?_set, L2.wipe_length]
    by_cases h : v = i
    · subst h
      rw [if_pos rfl, if_pos List.mem_cons_self]
    · rw [if_neg h, wipe_at σ vs i]
      by_cases q : i ∈ vs
      · rw [if_pos q, if_pos (List.mem_cons_of_mem _ q)]
      · rw [if_neg q, if_neg (fun z => by rcases List.mem_cons.mp z with rfl | z; exact h rfl; exact q z)]
theorem wipe_off {σ σ' : L2.St} {ws vs : List Nat} (h : Off ws (L2.wipe σ vs) σ') (hw : ∀ i ∈ ws, i ∈ vs) : L2.wipe σ' vs = L2.wipe σ vs := by
  apply List.ext_getElem?
  intro i
  rw [wipe_at, wipe_at]
  have hl : σ'.length = σ.length := h.1.trans (L2.wipe_length _ _)
  by_cases q : i ∈ vs
  · rw [if_pos q, if_pos q, hl]
  · rw [if_neg q, if_neg q, h.2 i (fun z => q (hw i z)), wipe_at, if_neg q]
/-- the second clause's names are among the block's -/
theorem wipe_off2 {σ σ' : L2.St} {ws vs : List Nat} (h : Off ws (L2.wipe σ vs) σ') (hw : ∀ i ∈ ws, i ∈ vs) : L2.wipe σ' vs = L2.wipe σ vs := wipe_off h hw
theorem Ext.updNew {F H F' H' : Hp} (E : Ext F H F' H') {D : Addr} {o : HO} (n : H D = none) (f : F' D = none) : Ext F H F' (upd H' D o) := by
  refine ⟨E.f, fun b u e => ?_, fun b u e => ?_, E.new⟩
  · rw [upd_ne (ne_of_none e n)]; exact E.h _ _ e
  · rw [upd_ne (ne_of_none e f)]; exact E.fh _ _ e
theorem Ext.notIn {F H F' H' : Hp} (E : Ext F H F' H') {D : Addr} {o : HO} (h : H D = some o) (f : F D = none) : F' D = none := by
  cases q : F' D with
  | none => rfl
  | some u => have := E.new D u q f; rw [h] at this; cases this

def mLcL (g : MG) (c : MT) (el : ME) (Γ : En) : List D → Option (List D)
  | [] => some []
  | x :: xs => (g x Γ).bind fun Γ1 => (c Γ1).bind fun t => if t then (el Γ1).bind fun y => (mLcL g c el Γ xs).map (y :: ·) else mLcL g c el Γ xs
def mYes : MT := fun _ => some true
def mLc (ml : ML) (g : MG) (c : MT) (el : ME) (vs : List Nat) : ME := fun Γ => (ml Γ).bind fun xs => (mLcL g c el (wipeE Γ vs) xs).bind fun ys => if ys.length ≤ LIM then some (.lst ys) else none
section
variable {X : Cx} {tg elt iter c : Expr} {ifs : List Expr} {scope : Scope} {own : List (Str × Nat)} {pos : Pos} {ml : ML} {g : MG} {mt : MT} {me : ME} {ws vs : List Nat}
theorem PTs_wk {X : Cx} {es : List Expr} {t t' : TT} (h : PTs X es t) (w : ∀ σ H Q, t' σ H Q → t σ H Q) : PTs X es t' := ⟨fun pins s σ H Q I q => h.run pins s σ H Q I (w _ _ _ q)⟩
theorem c_nil : PTs X [] (rdT X.K mYes) := PTs_wk pts_nil fun σ H Q ⟨H0, F, Γ, b, R, z, q⟩ => by cases z; exact q H F (.refl R.fh)
theorem c_one (h : PT X c (rdT X.K mt)) : PTs X [c] (rdT X.K mt) := pts_one h
/-- one clause: from the readings to HandS's -/
theorem lc_of {K : PySem.W.Frag} (hw : ∀ i ∈ ws, i ∈ vs) {σ H Q} (h : rdN K (mLc ml g mt me vs) σ H Q) : tLc (rdI K ml) (rdG K ws g) (rdT K mt) (rdE K me) vs σ H Q := by
  obtain ⟨H0, F, Γ, d, R, z, q⟩ := h
  obtain ⟨xs, e1, z⟩ := Option.bind_eq_some_iff.mp z
  obtain ⟨ys, e2, z⟩ := Option.bind_eq_some_iff.mp z
  obtain ⟨lim, rfl⟩ := if_some z
  refine ⟨H0, F, Γ, xs, R, e1, fun J H1 F1 E1 ok D nD => ?_⟩
  have R1 := R.ext E1
  have nF1 : F1 D = none := E1.fh.free nD
  refine ⟨fun i m H => i + m = xs.length ∧ ∃ F' acc done ys', Ext F1 H1 F' H ∧ F' D = none ∧ H D = some (.lst acc) ∧ RepL K F' acc done ∧ done ++ ys' = ys ∧ mLcL g mt me (wipeE Γ vs) (xs.drop i) = some ys',
    ⟨xs.length, by omega, F1, [], [], ys, Ext.own E1.fh nD, nF1, upd_same, .nil, rfl, by rw [List.drop_zero]; exact e2⟩, fun i m H h => ?_⟩
  obtain ⟨hm, F', acc, done, ys', E, fD, hD, rep, app, z2⟩ := h
  by_cases hi : i < xs.length
  · rw [List.drop_eq_getElem_cons hi] at z2
    obtain ⟨Γ1, e3, z2⟩ := Option.bind_eq_some_iff.mp z2
    obtain ⟨t, e4, z2⟩ := Option.bind_eq_some_iff.mp z2
    obtain ⟨gg, yy⟩ := ok.go F' H i xs[i] E.f E.fh (List.getElem?_eq_getElem hi)
    refine .inr ⟨gg, fun H => (i + 1) + (m - 1) = xs.length ∧ ∃ F' acc done ys', Ext F1 H1 F' H ∧ F' D = none ∧ H D = some (.lst acc) ∧ RepL K F' acc done ∧ done ++ ys' = ys ∧ mLcL g mt me (wipeE Γ vs) (xs.drop (i + 1)) = some ys',
      fun H' hN => ⟨m - 1, by omega, hN⟩, fun x H' y => ?_⟩
    obtain ⟨F2, E2, r2⟩ := yy x H' y
    have f2 := E2.notIn hD fD
    refine ⟨H0, F2, wipeE Γ vs, xs[i], Γ1, ((R1.ext E).ext E2).wipe vs, r2, e3, fun σ3 R3 off kept => ⟨wipe_off off hw, H0, F2, Γ1, t, R3, e4, fun H4 F4 E4 => ?_⟩⟩
    have f4 := E4.notIn (E2.h _ _ hD) f2
    have E24 := E2.trans E4
    have hD4 := E24.h _ _ hD
    cases t with
    | false => exact iteF ⟨by omega, F4, acc, done, ys', E.trans E24, f4, hD4, rep.mono E24.f, app, z2⟩
    | true =>
      obtain ⟨y, e5, z2⟩ := Option.bind_eq_some_iff.mp z2
      obtain ⟨ys2, e6, e7⟩ := Option.map_eq_some_iff.mp z2
      subst e7
      refine iteT ⟨H0, F4, Γ1, y, R3.ext E4, e5, fun v H5 F5 E5 rv => ⟨acc, E5.h _ _ hD4, ?_, by omega, F5, acc ++ [v], done ++ [y], ys2, ?_, E5.notIn hD4 f4, upd_same, ((rep.mono E24.f).mono E5.f).append (.cons rv .nil), ?_, e6⟩⟩
      · rw [rep.length, ← lim_line]
        have : ys.length = done.length + (ys2.length + 1) := by rw [← app, List.length_append, List.length_cons]
        omega
      · exact ((E.trans E24).trans E5).updNew nD (E5.notIn hD4 f4)
      · rw [List.append_assoc]; exact app
  · have hl : i = xs.length := by omega
    subst hl
    rw [List.drop_length] at z2
    cases z2
    rw [List.append_nil] at app
    subst app
    exact .inl ⟨ok.stop F' H E.f E.fh, q D (.lst acc) H F' (E1.trans E) (E1.h.free nD) fD hD rfl (.lst rep)⟩
theorem r_lc (hc : X.calm = true) (hN : X.N.Nodup) (hi : PI X tg iter (rdI X.K ml)) (ok : BlkOk X.N X.env.scope scope own)
    (hg : ∀ (s : Shared) (H : Hp) (C : Addr) (cl : List (Str × Addr)) (fp : List Addr), PG (X.blk s H scope (compEnvC scope cl C X.env) fp) tg (rdG X.K ws g)) (ht : ∀ (s : Shared) (H : Hp) (C : Addr) (cl : List (Str × Addr)) (fp : List Addr), PTs (X.blk s H scope (compEnvC scope cl C X.env) fp) ifs (rdT X.K mt))
    (he : ∀ (s : Shared) (H : Hp) (C : Addr) (cl : List (Str × Addr)) (fp : List Addr), PE (X.blk s H scope (compEnvC scope cl C X.env) fp) elt (rdE X.K me)) (hw : ∀ i ∈ ws, i ∈ own.map (·.2) := by decide) (hs : ∀ x, foldedSetIterable iter X.env x = pure x := by intro _; rfl) :
    PE X (.ListComp elt [⟨tg, iter, ifs, 0⟩] scope pos) (rdN X.K (mLc ml g mt me (own.map (·.2)))) :=
  PE.wk (pe_lc hc hN hi ok hg ht he hs) fun _ _ _ h => lc_of hw h
theorem set_of {K : PySem.W.Frag} {H0 : Hp} {m : ME} {t : TE} {i : Nat} (hm : ∀ σ H Q, rdN K m σ H Q → t σ H Q) {D0 : Ends} {σ : L2.St} {H : Hp} (h : rdS K H0 (sSet i (xO m)) D0 σ H) : tAsg t (gName i) D0 σ H := by
  obtain ⟨F, Γ, fl, Γ', R, z, q⟩ := h
  obtain ⟨s, e1, z⟩ := Option.map_eq_some_iff.mp z
  obtain ⟨d, e2, rfl⟩ := Option.map_eq_some_iff.mp e1
  cases z
  exact hm _ _ _ ⟨H0, F, Γ, d, R, e2, fun a o H' F' E n fa ha m r => q _ H' F' (Grow.ext R.h0 E) (R.setX E (s := .own d) ⟨m, a, o, rfl, n, fa, ha, r⟩ i)⟩
/-- name = [..] on one line -/
theorem s_setLc (i : Nat) {H0 : Hp} {y : Str} {py spos : Pos} (hc : X.calm = true) (hN : X.N.Nodup) (hi : PI X tg iter (rdI X.K ml)) (ok : BlkOk X.N X.env.scope scope own)
    (hg : ∀ (s : Shared) (H : Hp) (C : Addr) (cl : List (Str × Addr)) (fp : List Addr), PG (X.blk s H scope (compEnvC scope cl C X.env) fp) tg (rdG X.K ws g)) (ht : ∀ (s : Shared) (H : Hp) (C : Addr) (cl : List (Str × Addr)) (fp : List Addr), PTs (X.blk s H scope (compEnvC scope cl C X.env) fp) ifs (rdT X.K mt))
    (he : ∀ (s : Shared) (H : Hp) (C : Addr) (cl : List (Str × Addr)) (fp : List Addr), PE (X.blk s H scope (compEnvC scope cl C X.env) fp) elt (rdE X.K me))
    (hsw : swapsWith (.ListComp elt [⟨tg, iter, ifs, 0⟩] scope pos) (some (.Name y py)) spos.line X.env = pure true) (hy : X.N[i]? = some y := by rfl) (hyl : X.env.scope.names.lookup y = some .local := by rfl) (hw : ∀ i ∈ ws, i ∈ own.map (·.2) := by decide)
    (hs : ∀ x, foldedSetIterable iter X.env x = pure x := by intro _; rfl) : PS X (.Assign [.Name y py] (.ListComp elt [⟨tg, iter, ifs, 0⟩] scope pos) spos) (rdS X.K H0 (sSet i (xO (mLc ml g mt me (own.map (·.2)))))) :=
  PS_wk (ps_setLc hc hN hy hyl hsw hi ok hg ht he hs) fun _ _ _ h => set_of (fun _ _ _ h => lc_of hw h) h
end

/-! ### two clauses -/
def mLc2L (g : MG) (c : MT) (ml1 : ML) (g1 : MG) (c1 : MT) (el : ME) (vs1 : List Nat) (Γ : En) : List D → Option (List D)
  | [] => some []
  | x :: xs => (g x Γ).bind fun Γ1 => (c Γ1).bind fun t => if t then (ml1 Γ1).bind fun xs1 => (mLcL g1 c1 el (wipeE Γ1 vs1) xs1).bind fun ys => (mLc2L g c ml1 g1 c1 el vs1 Γ xs).map (ys ++ ·) else mLc2L g c ml1 g1 c1 el vs1 Γ xs
def mLc2 (ml : ML) (g : MG) (c : MT) (ml1 : ML) (g1 : MG) (c1 : MT) (el : ME) (vs vs1 : List Nat) : ME := fun Γ => (ml Γ).bind fun xs => (mLc2L g c ml1 g1 c1 el vs1 (wipeE Γ vs) xs).bind fun ys => if ys.length ≤ LIM then some (.lst ys) else none
section
variable {X : Cx} {tg elt iter tg1 iter1 c : Expr} {ifs ifs1 : List Expr} {scope : Scope} {own : List (Str × Nat)} {pos : Pos} {ml ml1 : ML} {g g1 : MG} {mt mt1 : MT} {me : ME} {ws ws1 vs vs1 : List Nat}
theorem lc2_of {K : PySem.W.Frag} (hw : ∀ i ∈ ws, i ∈ vs) (hw1 : ∀ i ∈ ws1, i ∈ vs1) {σ H Q} (h : rdN K (mLc2 ml g mt ml1 g1 mt1 me vs vs1) σ H Q) : tLc2 (rdI K ml) (rdG K ws g) (rdT K mt) (rdI K ml1) (rdG K ws1 g1) (rdT K mt1) (rdE K me) vs vs1 σ H Q := by
  obtain ⟨H0, F, Γ, d, R, z, q⟩ := h
  obtain ⟨xs, e1, z⟩ := Option.bind_eq_some_iff.mp z
  obtain ⟨ys, e2, z⟩ := Option.bind_eq_some_iff.mp z
  obtain ⟨lim, rfl⟩ := if_some z
  refine ⟨H0, F, Γ, xs, R, e1, fun J H1 F1 E1 ok D nD => ?_⟩
  have R1 := R.ext E1
  have nF1 : F1 D = none := E1.fh.free nD
  refine ⟨fun i m H => i + m = xs.length ∧ ∃ F' acc done ys', Ext F1 H1 F' H ∧ F' D = none ∧ H D = some (.lst acc) ∧ RepL K F' acc done ∧ done ++ ys' = ys ∧ mLc2L g mt ml1 g1 mt1 me vs1 (wipeE Γ vs) (xs.drop i) = some ys',
    ⟨xs.length, by omega, F1, [], [], ys, Ext.own E1.fh nD, nF1, upd_same, .nil, rfl, by rw [List.drop_zero]; exact e2⟩, fun i m H h => ?_⟩
  obtain ⟨hm, F', acc, done, ys', E, fD, hD, rep, app, z2⟩ := h
  by_cases hi : i < xs.length
  · rw [List.drop_eq_getElem_cons hi] at z2
    obtain ⟨Γ1, e3, z2⟩ := Option.bind_eq_some_iff.mp z2
    obtain ⟨t, e4, z2⟩ := Option.bind_eq_some_iff.mp z2
    obtain ⟨gg, yy⟩ := ok.go F' H i xs[i] E.f E.fh (List.getElem?_eq_getElem hi)
    refine .inr ⟨gg, fun H => (i + 1) + (m - 1) = xs.length ∧ ∃ F' acc done ys', Ext F1 H1 F' H ∧ F' D = none ∧ H D = some (.lst acc) ∧ RepL K F' acc done ∧ done ++ ys' = ys ∧ mLc2L g mt ml1 g1 mt1 me vs1 (wipeE Γ vs) (xs.drop (i + 1)) = some ys',
      fun H' hN => ⟨m - 1, by omega, hN⟩, fun x H' y => ?_⟩
    obtain ⟨F2, E2, r2⟩ := yy x H' y
    have f2 := E2.notIn hD fD
    refine ⟨H0, F2, wipeE Γ vs, xs[i], Γ1, ((R1.ext E).ext E2).wipe vs, r2, e3, fun σ3 R3 off kept => ⟨wipe_off off hw, H0, F2, Γ1, t, R3, e4, fun H4 F4 E4 => ?_⟩⟩
    have f4 := E4.notIn (E2.h _ _ hD) f2
    have E24 := E2.trans E4
    have hD4 := E24.h _ _ hD
    cases t with
    | false => exact iteF ⟨by omega, F4, acc, done, ys', E.trans E24, f4, hD4, rep.mono E24.f, app, z2⟩
    | true =>
      obtain ⟨xs1, e5, z2⟩ := Option.bind_eq_some_iff.mp z2
      obtain ⟨zs, e6, z2⟩ := Option.bind_eq_some_iff.mp z2
      obtain ⟨ys2, e7, e8⟩ := Option.map_eq_some_iff.mp z2
      subst e8
      refine iteT ⟨H0, F4, Γ1, xs1, R3.ext E4, e5, fun J1 H5 F5 E5 ok1 => ?_⟩
      have f5 := E5.notIn hD4 f4
      have E5' := (E.trans E24).trans E5
      have R5 := (R3.ext E4).ext E5
      refine ⟨fun j k H => j + k = xs1.length ∧ ∃ F' acc done ys', Ext F1 H1 F' H ∧ Same F5 F' ∧ Rel K H0 F' H σ3 Γ1 ∧ F' D = none ∧ H D = some (.lst acc) ∧ RepL K F' acc done ∧ done ++ (ys' ++ ys2) = ys ∧ mLcL g1 mt1 me (wipeE Γ1 vs1) (xs1.drop j) = some ys',
        ⟨xs1.length, by omega, F5, acc, done, zs, E5', .refl _, R5, f5, E5.h _ _ hD4, rep.mono (E24.trans E5).f, app, by rw [List.drop_zero]; exact e6⟩, fun j k H h => ?_⟩
      obtain ⟨hk, F6, acc6, done6, ys6, E6, s6, R6, f6, hD6, rep6, app6, z6⟩ := h
      by_cases hj : j < xs1.length
      · rw [List.drop_eq_getElem_cons hj] at z6
        obtain ⟨Γ7, e9, z6⟩ := Option.bind_eq_some_iff.mp z6
        obtain ⟨t7, e10, z6⟩ := Option.bind_eq_some_iff.mp z6
        obtain ⟨g7, y7⟩ := ok1.go F6 H j xs1[j] s6 E6.fh (List.getElem?_eq_getElem hj)
        refine .inr ⟨g7, fun H => (j + 1) + (k - 1) = xs1.length ∧ ∃ F' acc done ys', Ext F1 H1 F' H ∧ Same F5 F' ∧ Rel K H0 F' H σ3 Γ1 ∧ F' D = none ∧ H D = some (.lst acc) ∧ RepL K F' acc done ∧ done ++ (ys' ++ ys2) = ys ∧ mLcL g1 mt1 me (wipeE Γ1 vs1) (xs1.drop (j + 1)) = some ys',
          fun H' hN => ⟨k - 1, by omega, hN⟩, fun x1 H7 y1 => ?_⟩
        obtain ⟨F7, E7, r7⟩ := y7 x1 H7 y1
        have f7 := E7.notIn hD6 f6
        refine ⟨H0, F7, wipeE Γ1 vs1, xs1[j], Γ7, (R6.ext E7).wipe vs1, r7, e9, fun σ8 R8 off8 _ => ⟨wipe_off off8 hw1, H0, F7, Γ7, t7, R8, e10, fun H9 F9 E9 => ?_⟩⟩
        have f9 := E9.notIn (E7.h _ _ hD6) f7
        have E79 := E7.trans E9
        have hD9 := E79.h _ _ hD6
        cases t7 with
        | false => exact iteF ⟨by omega, F9, acc6, done6, ys6, E6.trans E79, s6.trans E79.f, R6.ext E79, f9, hD9, rep6.mono E79.f, app6, z6⟩
        | true =>
          obtain ⟨y, e11, z6⟩ := Option.bind_eq_some_iff.mp z6
          obtain ⟨ys10, e12, e13⟩ := Option.map_eq_some_iff.mp z6
          subst e13
          refine iteT ⟨H0, F9, Γ7, y, R8.ext E9, e11, fun v H10 F10 E10 rv => ?_⟩
          have fA := E10.notIn hD9 f9
          have EA := E79.trans E10
          refine ⟨acc6, E10.h _ _ hD9, ?_, by omega, F10, acc6 ++ [v], done6 ++ [y], ys10, ?_, s6.trans EA.f, ?_, fA, upd_same, (rep6.mono EA.f).append (.cons rv .nil), ?_, e12⟩
          · rw [rep6.length, ← lim_line]
            have : ys.length = done6.length + ((ys10.length + 1) + ys2.length) := by rw [← app6, List.length_append, List.length_append, List.length_cons]
            omega
          · exact (E6.trans EA).updNew nD fA
          · have RA := R6.ext EA
            exact RA.updOff fA (R1.h0.free nD) fun j e hj => by
              obtain ⟨k1, k2⟩ := kept j e hj
              rw [k2]
              exact (R1.wipe vs).newOff nD j e k1
          · rw [List.append_assoc]; exact app6
      · have hl : j = xs1.length := by omega
        subst hl
        rw [List.drop_length] at z6
        cases z6
        exact .inl ⟨ok1.stop F6 H s6 E6.fh, by omega, F6, acc6, done6, ys2, E6, f6, hD6, rep6, app6, e7⟩
  · have hl : i = xs.length := by omega
    subst hl
    rw [List.drop_length] at z2
    cases z2
    rw [List.append_nil] at app
    subst app
    exact .inl ⟨ok.stop F' H E.f E.fh, q D (.lst acc) H F' (E1.trans E) (E1.h.free nD) fD hD rfl (.lst rep)⟩
end
end SK

set_option Elab.async false
set_option linter.all false
set_option maxRecDepth 100000
set_option maxHeartbeats 4000000
set_option autoImplicit false
namespace SK
open PySem PySem.Spec PyProof.Rows L2

/-! ### a def -/
def runFn (np nn : Nat) (b : MS) : List D → Option D := fun ds => if ds.length = np then
    match b (ds.map Slot.val ++ List.replicate (nn - np) Slot.emp) with
    | some (.rt d, _) => some d
    | some (.nx, _) => some .non
    | _ => none
  else none
theorem start_rel {K : PySem.W.Frag} {F H : Hp} {vs : List V} {ds : List D} {N : List Str} (s : Same F H) (r : RepL K F vs ds) : Rel K H F H (L2.start N vs) (ds.map Slot.val ++ List.replicate (N.length - ds.length) Slot.emp) := by
  have hl := r.length
  have nown : ∀ (j : Nat) (e : D), (ds.map Slot.val ++ List.replicate (N.length - ds.length) Slot.emp)[j]? ≠ some (.own e) := fun j e h => by
    rw [List.getElem?_append] at h
    split at h
    · rw [List.getElem?_map] at h
      obtain ⟨d, _, h⟩ := Option.map_eq_some_iff.mp h
      cases h
    · rw [List.getElem?_replicate] at h
      split at h
      · cases h
      · cases h
  refine ⟨.refl _, s, ?_, fun i t hi => ?_, fun i j d e a h1 _ _ _ => (nown i d h1).elim⟩
  · unfold L2.start
    rw [List.length_append, List.length_append, List.length_map, List.length_map, List.length_replicate, List.length_replicate, hl]
  · unfold L2.start
    rw [List.getElem?_append, List.length_map] at hi
    rw [List.getElem?_append, List.length_map, hl]
    split at hi
    · rename_i c
      rw [if_pos c]
      rw [List.getElem?_map] at hi
      obtain ⟨d, e1, rfl⟩ := Option.map_eq_some_iff.mp hi
      obtain ⟨v, h1, h2⟩ := r.get e1
      exact ⟨some v, by rw [List.getElem?_map, h1]; rfl, v, rfl, h2⟩
    · rename_i c
      rw [if_neg c]
      rw [List.getElem?_replicate] at hi ⊢
      split at hi
      · rename_i c2
        cases hi
        exact ⟨none, by rw [if_pos c2], trivial⟩
      · cases hi
section
variable {P : Program} {w : World} {K : PySem.W.Frag} {mg : Str → Option Value} {base : Heap}
/-- a def keeps its promise: its body's derivation -/
theorem fn_ok {x qual : Str} {st : Stmt} {f : Addr} {fd : FuncData} {N ps : List Str} {k : Nat} {b : MS} (F : Fun K x qual st f fd) (S : FnScope N ps (defScope st))
    (body : ∀ (cdv : Value) (A : Around) (outer : List Env) (s : Shared) (H : Hp) (E : XK), Room k (A.deeper (envOfC qual (defScope st) s.heap.objs.size f cdv)) → PSs (cxOf CX0 P w K mg base N qual (defScope st) f cdv A outer s H E).nox (defBody st) (rdS K H b)) :
    FnOk P w K mg base CX0 (k + 1) f fd ps (spF K (runFn ps.length N.length b)) := by
  have hlen : ∀ vs H Q E, spF K (runFn ps.length N.length b) vs H Q E → vs.length = ps.length := fun vs H Q E h => by
    obtain ⟨F0, ds, d, s, r, e, q⟩ := h
    unfold runFn at e
    split at e
    · rename_i c; rw [r.length]; exact c
    · cases e
  refine F.ok S hlen fun cdv A outer s H vs Q E hr h => ⟨rdS K H b, body cdv A outer s H E hr, ?_⟩
  have hl := hlen vs H Q E h
  obtain ⟨F0, ds, d, sm, r, e, q⟩ := h
  unfold runFn at e
  rw [if_pos (r.length.symm.trans hl), show N.length - ps.length = N.length - ds.length by rw [← hl, r.length]] at e
  have R := start_rel (N := N) sm r
  split at e
  · rename_i d' Γ' e1
    cases e
    refine ⟨F0, _, .rt d, Γ', R, e1, fun σ1 H1 F1 G R1 v F' H' E1 rv => q v H' F' ?_ rv⟩
    exact Ext.trans ⟨G.1, R1.h0, R1.fh, G.2⟩ E1
  · rename_i Γ' e1
    cases e
    exact ⟨F0, _, .nx, Γ', R, e1, fun σ1 H1 F1 G R1 => q .non H1 F1 ⟨G.1, R1.h0, R1.fh, G.2⟩ .non⟩
  · cases e
/-- a mirror: where it answers, the def answers the same -/
def LeF (n m : List D → Option D) : Prop := ∀ x r, n x = some r → m x = some r
theorem okLe {f : Addr} {fd : FuncData} {ps : List Str} {k : Nat} {n m : List D → Option D} (G : FnOk P w K mg base CX0 k f fd ps (spF K m)) (h : LeF n m) : FnOk P w K mg base CX0 k f fd ps (spF K n) :=
  G.imp fun vs H Q E ⟨F, ds, d, s, r, e, q⟩ => ⟨F, ds, d, s, r, h _ _ e, q⟩
/-- the law's promise -/
def spLaw (K : PySem.W.Frag) : Sp := fun vs H Q _ => ∃ (a : Addr) (ns : List Int), vs = [.ref a] ∧ SqL K H a (ns.map V.int) ∧ ns.length ≤ 63 ∧ ∀ H', Q (.bl true) H'
theorem law_ok {f : Addr} {fd : FuncData} {ps : List Str} {k : Nat} {m : List D → Option D} (G : FnOk P w K mg base CX0 k f fd ps (spF K m)) (h : ∀ ns : List Int, ns.length ≤ 63 → m [.scr ns] = some (.bl true)) : FnOk P w K mg base CX0 k f fd ps (spLaw K) :=
  G.imp fun vs H Q E ⟨a, ns, e, hs, hl, q⟩ => ⟨H, [.scr ns], .bl true, .refl _, by rw [e]; exact .cons (.scr hs) .nil, h ns hl, fun v H' F' _ r => by rw [r.blI]; exact q H'⟩
end
end SK

set_option Elab.async false
set_option linter.all false
set_option maxRecDepth 100000
set_option maxHeartbeats 4000000
set_option autoImplicit false
namespace SK
open PySem PySem.Spec PyProof.Rows L2

/-! ### isinstance -/
inductive Ty where
  | int | bool | tuple | list | str
def Ty.nm : Ty → String
  | .int => "int" | .bool => "bool" | .tuple => "tuple" | .list => "list" | .str => "str"
def D.kd : D → Option String
  | .non => some "NoneType"
  | .bl _ => some "bool"
  | .int _ => some "int"
  | .str _ => some "str"
  | .tup _ => some "tuple"
  | .lst _ => some "list"
  | .scr _ => none
def isi : Ty → D → Option Bool
  | _, .scr _ => none
  | .int, .int _ => some true
  | .int, .bl _ => some true
  | .bool, .bl _ => some true
  | .tuple, .tup _ => some true
  | .list, .lst _ => some true
  | .str, .str _ => some true
  | _, _ => some false
def dIsi (t : Ty) (d : D) : Option D := (isi t d).map .bl
theorem tyOf_B {K : PySem.W.Frag} {F H : Hp} {v : V} {d : D} {k : String} (s : Same F H) (r : RepB K F H v d) (h : d.kd = some k) : TyOf K H v (.type k) := by
  cases d with
  | non => rw [r.non]; cases h; exact .non
  | bl a => rw [r.bl]; cases h; exact .bl a
  | int i => rw [r.int]; cases h; exact .int i
  | str x => rw [r.str]; cases h; exact .str x
  | tup xs =>
    obtain ⟨a, vs, rfl, h1, r1⟩ := r.tup
    cases h
    exact .tup (s _ _ h1)
  | lst xs =>
    obtain ⟨a, vs, rfl, h1, r1⟩ := r.lst s
    cases h
    exact .lst h1
  | scr ns => cases h
theorem isi_kit {K : PySem.W.Frag} {t : Ty} {d : D} {b : Bool} (h : isi t d = some b) : ∃ k, d.kd = some k ∧ PySem.W.kitOne K (.type k) (.type t.nm) = some b := by
  cases d with
  | scr ns => cases t <;> cases h
  | non => refine ⟨_, rfl, kit_ty ?_⟩; cases t <;> (cases h; decide +kernel)
  | bl a => refine ⟨_, rfl, kit_ty ?_⟩; cases t <;> (cases h; decide +kernel)
  | int i => refine ⟨_, rfl, kit_ty ?_⟩; cases t <;> (cases h; decide +kernel)
  | str x => refine ⟨_, rfl, kit_ty ?_⟩; cases t <;> (cases h; decide +kernel)
  | tup xs => refine ⟨_, rfl, kit_ty ?_⟩; cases t <;> (cases h; decide +kernel)
  | lst xs => refine ⟨_, rfl, kit_ty ?_⟩; cases t <;> (cases h; decide +kernel)
section
variable {X : Cx} {e : Expr} {x : Str} {p q pos : Pos} {me : ME}
theorem r_isi (t : Ty) (he : PE X e (rdB X.K me)) (hg : Gl X "isinstance") (hm : X.mg "isinstance" = none) (hx : Gl X x) (hmx : X.mg x = none) (hv : bootBuiltins x = some (.type t.nm)) (hxn : x ≠ "__name__" := by decide) (hxd : (x == ("__debug__" : Str)) = false := by decide)
    (h1 : starEach [e, .Name x q] X.env = (false, eval e X.env) :: starEach [.Name x q] X.env := by rfl) :
    PE X (.Call (.Name "isinstance" p) [e, .Name x q] [] pos) (rdE X.K (mUn (dIsi t) me)) :=
  PE.wk (pe_callB call_isi hg hm (by decide +kernel) (pa_cons he (pa_cons (pe_bltn (v := .ty t.nm) hx hmx hv rfl hxn hxd) pa_nil) h1) (he := h1)) fun σ H Q ⟨H0, F, Γ, d, R, z, qq⟩ => by
    obtain ⟨dx, ex, z⟩ := Option.bind_eq_some_iff.mp z
    obtain ⟨b, eb, rfl⟩ := Option.map_eq_some_iff.mp z
    refine ⟨H0, F, Γ, dx, R, ex, fun v H1 F1 E1 rv => ?_⟩
    obtain ⟨k, e1, e2⟩ := isi_kit (K := X.K) eb
    exact ⟨v, .ty t.nm, .type k, .type t.nm, b, rfl, .ty _, .base (tyOf_B E1.fh rv e1), e2, qq _ H1 F1 E1 (.bl _)⟩
end

/-! ### in, not in: flat items -/
def D.flat : D → Bool
  | .non => true
  | .bl _ => true
  | .int _ => true
  | .str _ => true
  | _ => false
theorem flat_rep {K : PySem.W.Frag} {F : Hp} {v : V} {d : D} (r : Rep K F v d) (h : d.flat = true) : flatV v = true := by
  cases r with
  | ob _ q => cases q <;> cases h
  | scr _ => cases h
  | _ => rfl
theorem eqV_rep {K : PySem.W.Frag} {F G : Hp} {v w : V} {d e : D} (r : Rep K F v d) (s : Rep K G w e) (h : d.flat = true) (k : e.flat = true) : eqV v w = D.eqb d e := by
  cases r with
  | ob _ q => cases q <;> cases h
  | scr _ => cases h
  | non => cases s with
    | ob _ q => cases q <;> cases k
    | scr _ => cases k
    | _ => simp only [eqV, D.eqb]
  | bl => cases s with
    | ob _ q => cases q <;> cases k
    | scr _ => cases k
    | _ => simp only [eqV, D.eqb]
  | int => cases s with
    | ob _ q => cases q <;> cases k
    | scr _ => cases k
    | _ => simp only [eqV, D.eqb]
  | str => cases s with
    | ob _ q => cases q <;> cases k
    | scr _ => cases k
    | _ => simp only [eqV, D.eqb]
theorem inV_rep {K : PySem.W.Frag} {F G : Hp} {w : V} {e : D} (s : Rep K G w e) (k : e.flat = true) : ∀ {vs : List V} {ds : List D}, RepL K F vs ds → ds.all D.flat = true → vs.all flatV = true ∧ inV w vs = ds.any fun d => D.eqb d e
  | _, _, .nil, _ => ⟨rfl, rfl⟩
  | _, _, .cons h r, a => by
    rw [List.all_cons] at a
    obtain ⟨a1, a2⟩ := Bool.and_eq_true_iff.mp a
    obtain ⟨i1, i2⟩ := inV_rep s k r a2
    refine ⟨by rw [List.all_cons, flat_rep h a1, i1]; rfl, ?_⟩
    unfold inV at i2 ⊢
    rw [List.any_cons, List.any_cons, i2, eqV_rep h s a1 k]
def dIn (x c : D) : Option D := (itemsD c).bind fun ds => if x.flat && ds.all D.flat then some (.bl (ds.any fun d => D.eqb d x)) else none
def dNotIn (x c : D) : Option D := (itemsD c).bind fun ds => if x.flat && ds.all D.flat then some (.bl (!ds.any fun d => D.eqb d x)) else none
theorem seq_B {K : PySem.W.Frag} {F H : Hp} {v : V} {d : D} {ds : List D} (s : Same F H) (r : RepB K F H v d) (h : itemsD d = some ds) : ∃ p vs, v = .ref p ∧ (SqL K H p vs ∨ SqT K H p vs) ∧ RepL K F vs ds := by
  unfold itemsD at h
  split at h
  · cases h
    obtain ⟨a, vs, rfl, h1, r1⟩ := r.tup
    exact ⟨a, vs, rfl, .inr (.of (s _ _ h1)), r1⟩
  · cases h
    obtain ⟨a, vs, rfl, h1, r1⟩ := r.lst s
    exact ⟨a, vs, rfl, .inl (.of h1), r1⟩
  · cases h
theorem flat_notM {d : D} (h : d.flat = true) : d.isM = false := by cases d <;> first | rfl | cases h
section
variable {K : PySem.W.Frag}
theorem d_in : Op2 K dIn (rIn K false) := by
  intro F H x y dx dy d Q s rx ry e q
  obtain ⟨ds, e1, e⟩ := Option.bind_eq_some_iff.mp e
  obtain ⟨c, rfl⟩ := ite_some e
  obtain ⟨c1, c2⟩ := Bool.and_eq_true_iff.mp c
  obtain ⟨p, vs, rfl, h1, r1⟩ := seq_B s ry e1
  have rx' := rx.full (flat_notM c1)
  obtain ⟨i1, i2⟩ := inV_rep rx' c1 r1 c2
  refine ⟨p, vs, rfl, h1, flat_rep rx' c1, i1, ?_⟩
  rw [i2]
  exact q _ H F (.refl s) (.bl _)
theorem d_notin : Op2 K dNotIn (rIn K true) := by
  intro F H x y dx dy d Q s rx ry e q
  obtain ⟨ds, e1, e⟩ := Option.bind_eq_some_iff.mp e
  obtain ⟨c, rfl⟩ := ite_some e
  obtain ⟨c1, c2⟩ := Bool.and_eq_true_iff.mp c
  obtain ⟨p, vs, rfl, h1, r1⟩ := seq_B s ry e1
  have rx' := rx.full (flat_notM c1)
  obtain ⟨i1, i2⟩ := inV_rep rx' c1 r1 c2
  refine ⟨p, vs, rfl, h1, flat_rep rx' c1, i1, ?_⟩
  rw [i2]
  exact q _ H F (.refl s) (.bl _)
/-! ### a list times an int -/
def dRepL : D → D → Option D
  | .lst xs, .int k => if okR 0 k && decide (xs.length * k.toNat ≤ LIM) then some (.lst (List.replicate k.toNat xs).flatten) else none
  | _, _ => none
theorem d_repL : Op2N K dRepL rRep := by
  intro F H x y dx dy d Q s rx ry e q
  unfold dRepL at e
  split at e
  · obtain ⟨c, rfl⟩ := ite_some e
    obtain ⟨c1, c2⟩ := Bool.and_eq_true_iff.mp c
    obtain ⟨b1, b2, b3, b4⟩ := okR_bounds c1
    have c2 := of_decide_eq_true c2
    obtain ⟨a, vs, rfl, h1, r1⟩ := rx.lst s
    have p63 : (2 : Int) ^ 63 = 9223372036854775808 := by decide
    refine ⟨a, _, vs, rfl, ry.int, h1, by rw [p63]; omega, by rw [p63]; omega, by rw [r1.length, ← lim_line]; exact c2, fun p np => ?_⟩
    exact q p _ _ F (Ext.own s np) np (s.free np) upd_same rfl (.lst (r1.flatRep _))
  · cases e
end

/-! ### range(i, j, c), enumerate, zip -/
def stepD (lo c : Int) (n : Nat) : List D := (List.range n).map fun i => D.int (lo + (i : Nat) * c)
theorem stepD_get {lo c : Int} {n i : Nat} {d : D} (e : (stepD lo c n)[i]? = some d) : i < n ∧ d = .int (lo + (i : Nat) * c) := by
  unfold stepD at e
  rw [List.getElem?_map] at e
  obtain ⟨j, e1, rfl⟩ := Option.map_eq_some_iff.mp e
  obtain ⟨h1, h2⟩ := List.getElem?_eq_some_iff.mp e1
  rw [List.length_range] at h1
  rw [List.getElem_range] at h2
  exact ⟨h1, by rw [← h2]⟩
theorem stepD_len (lo c : Int) (n : Nat) : (stepD lo c n).length = n := by unfold stepD; rw [List.length_map, List.length_range]
def rngN (i j c : Int) : Nat := (Builtin.Range.rangeSize i j c).toNat
def okC (i j c : Int) : Bool := decide (c ≠ 0) && decide (c.natAbs < 1073741824) && Builtin.Range.small i j c && decide (0 ≤ Builtin.Range.rangeSize i j c)
def mRng3 (a b c : ME) : ML := fun Γ => ((a Γ).bind dI).bind fun i => ((b Γ).bind dI).bind fun j => ((c Γ).bind dI).bind fun k => if okC i j k then some (stepD i k (rngN i j k)) else none
theorem bl3 {K : PySem.W.Frag} {F H : Hp} {vs : List V} {d e f : D} (r : RepBL K F H vs [d, e, f]) : ∃ v w u, vs = [v, w, u] ∧ RepB K F H v d ∧ RepB K F H w e ∧ RepB K F H u f := by
  cases r with | cons h r => cases r with | cons h2 r => cases r with | cons h3 r => cases r; exact ⟨_, _, _, rfl, h, h2, h3⟩
/-- what is told in pairs -/
def PairOk (K : PySem.W.Frag) (J : It) (xs ys : List D) : Prop := True
def enumD (xs : List D) : List D := (List.range xs.length).map fun (i : Nat) => D.tup [.int i, xs.getD i .non]
def zipD (xs ys : List D) : List D := (xs.zip ys).map fun p => D.tup [p.1, p.2]
def mEnum (m : ME) : ML := fun Γ => (mItems m Γ).map enumD
def mZip (a b : ME) : ML := fun Γ => (mItems a Γ).bind fun xs => (mItems b Γ).map fun ys => zipD xs ys
section
variable {X : Cx} {tg e e2 a b c : Expr} {elts : List Expr} {kk : Nat} {p pos tpos : Pos} {ma mb mc : ME}
theorem i_rng3 (hg : Gl X "range") (hm : X.mg "range" = none) (ha : PE X a (rdB X.K ma)) (hb : PE X b (rdB X.K mb)) (hc : PE X c (rdB X.K mc)) (na : starEach [a, b, c] X.env = (false, eval a X.env) :: starEach [b, c] X.env := by rfl)
    (nb : starEach [b, c] X.env = (false, eval b X.env) :: starEach [c] X.env := by rfl) (nc : starEach [c] X.env = (false, eval c X.env) :: starEach [] X.env := by rfl) :
    PI X tg (.Call (.Name "range" p) [a, b, c] [] pos) (rdI X.K (mRng3 ma mb mc)) :=
  PI_wk (pi_range3 hg hm (r_bcons ha (r_bcons hb (r_bcons hc r_bnil nc) nb) na) na (by rw [nb, nc]; rfl)) fun σ H R ⟨H0, F, Γ, xs, R0, z, q⟩ => by
    obtain ⟨i, e1, z⟩ := Option.bind_eq_some_iff.mp z
    obtain ⟨d, e2, e3⟩ := Option.bind_eq_some_iff.mp e1
    rw [dI_some e3] at e2
    obtain ⟨j, f1, z⟩ := Option.bind_eq_some_iff.mp z
    obtain ⟨d', f2, f3⟩ := Option.bind_eq_some_iff.mp f1
    rw [dI_some f3] at f2
    obtain ⟨k, g1, z⟩ := Option.bind_eq_some_iff.mp z
    obtain ⟨d'', g2, g3⟩ := Option.bind_eq_some_iff.mp g1
    rw [dI_some g3] at g2
    obtain ⟨c, rfl⟩ := ite_someL z
    unfold okC at c
    rw [Bool.and_eq_true, Bool.and_eq_true, Bool.and_eq_true, decide_eq_true_eq, decide_eq_true_eq, decide_eq_true_eq] at c
    refine ⟨H0, F, Γ, [.int i, .int j, .int k], R0, by simp only [mCons, mNil, e2, f2, g2, Option.bind_some], fun vs H' F' E r => ?_⟩
    obtain ⟨v, w, u, rfl, r1, r2, r3⟩ := bl3 r
    refine ⟨i, j, k, rngN i j k, by rw [r1.int, r2.int, r3.int], ⟨c.1.1.1, c.1.1.2, c.1.2, (Int.toNat_of_nonneg c.2).symm⟩, q _ H' F' E ?_⟩
    refine ⟨fun F H n d s1 s2 e => ?_, fun F H s1 s2 => by rw [stepD_len]; exact Nat.le_refl _⟩
    obtain ⟨h1, rfl⟩ := stepD_get e
    refine ⟨h1, fun x H' y => ?_⟩
    obtain ⟨rfl, rfl⟩ := y
    exact ⟨F, .refl s2, .int _⟩
theorem pair_new {K : PySem.W.Frag} {F H : Hp} {T : Addr} {x y : V} {dx dy : D} (s : Same F H) (n : H T = none) (rx : Rep K F x dx) (ry : Rep K F y dy) : ∃ F', Ext F H F' (upd H T (.tup [x, y])) ∧ Rep K F' (.ref T) (.tup [dx, dy]) := by
  have E := Ext.laid s (o := .tup [x, y]) n
  exact ⟨_, E, .ob upd_same (.tup (.cons (rx.mono E.f) (.cons (ry.mono E.f) .nil)))⟩
theorem enumD_get {xs : List D} {i : Nat} {d : D} (e : (enumD xs)[i]? = some d) : ∃ x, xs[i]? = some x ∧ d = .tup [.int (i : Nat), x] := by
  unfold enumD at e
  rw [List.getElem?_map] at e
  obtain ⟨j, e1, rfl⟩ := Option.map_eq_some_iff.mp e
  obtain ⟨h1, h2⟩ := List.getElem?_eq_some_iff.mp e1
  rw [List.length_range] at h1
  rw [List.getElem_range] at h2
  subst h2
  exact ⟨xs[i], List.getElem?_eq_getElem h1, by rw [List.getD_eq_getElem?_getD, List.getElem?_eq_getElem h1]; rfl⟩
theorem enumD_len (xs : List D) : (enumD xs).length = xs.length := by unfold enumD; rw [List.length_map, List.length_range]
theorem ite_ok {K : PySem.W.Frag} {F1 : Hp} {a : Addr} {vs : List V} {xs : List D} (h : F1 a = some (.lst vs)) (r : RepL K F1 vs xs) : ItOk K F1 (Ite K a) (enumD xs) := by
  refine ⟨fun F H i d s1 s2 e => ?_, fun F H s1 s2 => ⟨vs, .of (s2 _ _ (s1 _ _ h)), by rw [r.length, enumD_len]; exact Nat.le_refl _⟩⟩
  obtain ⟨x, e1, rfl⟩ := enumD_get e
  obtain ⟨v, h1, h2⟩ := r.get e1
  have hq : SqL K H a vs := .of (s2 _ _ (s1 _ _ h))
  refine ⟨⟨vs, v, hq, h1⟩, fun y H' yy => ?_⟩
  obtain ⟨T, z, rfl, n, rfl, yy⟩ := yy
  have := yy vs hq
  rw [h1] at this
  cases this
  exact pair_new s2 n (.int _) (h2.mono s1)
theorem zipD_get {xs ys : List D} {i : Nat} {d : D} (e : (zipD xs ys)[i]? = some d) : ∃ x y, xs[i]? = some x ∧ ys[i]? = some y ∧ d = .tup [x, y] := by
  unfold zipD at e
  rw [List.getElem?_map] at e
  obtain ⟨⟨x, y⟩, e1, rfl⟩ := Option.map_eq_some_iff.mp e
  obtain ⟨h1, h2⟩ := List.getElem?_zip_eq_some.mp e1
  exact ⟨x, y, h1, h2, rfl⟩
theorem zipD_len (xs ys : List D) : (zipD xs ys).length = min xs.length ys.length := by unfold zipD; rw [List.length_map, List.length_zip]
theorem itz_ok {K : PySem.W.Frag} {F1 : Hp} {a b : Addr} {vs ws : List V} {xs ys : List D} (h : F1 a = some (.lst vs)) (h' : F1 b = some (.lst ws)) (r : RepL K F1 vs xs) (r' : RepL K F1 ws ys) : ItOk K F1 (Itz K a b) (zipD xs ys) := by
  refine ⟨fun F H i d s1 s2 e => ?_, fun F H s1 s2 => ⟨vs, ws, .of (s2 _ _ (s1 _ _ h)), .of (s2 _ _ (s1 _ _ h')), by rw [r.length, r'.length, zipD_len]; omega⟩⟩
  obtain ⟨x, y, e1, e2, rfl⟩ := zipD_get e
  obtain ⟨v, h1, h2⟩ := r.get e1
  obtain ⟨w, g1, g2⟩ := r'.get e2
  have hq : SqL K H a vs := .of (s2 _ _ (s1 _ _ h))
  have hq' : SqL K H b ws := .of (s2 _ _ (s1 _ _ h'))
  refine ⟨⟨vs, ws, v, w, hq, hq', h1, g1⟩, fun y H' yy => ?_⟩
  obtain ⟨T, z, z', rfl, n, rfl, yy, yy'⟩ := yy
  have e1 := yy vs hq
  rw [h1] at e1
  cases e1
  have e2 := yy' ws hq'
  rw [g1] at e2
  cases e2
  exact pair_new s2 n (h2.mono s1) (g2.mono s1)
theorem itzT_ok {K : PySem.W.Frag} {F1 : Hp} {a b : Addr} {vs ws : List V} {xs ys : List D} (h : F1 a = some (.tup vs)) (h' : F1 b = some (.tup ws)) (r : RepL K F1 vs xs) (r' : RepL K F1 ws ys) : ItOk K F1 (RZ.ItzT K a b) (zipD xs ys) := by
  refine ⟨fun F H i d s1 s2 e => ?_, fun F H s1 s2 => ⟨vs, ws, .of (s2 _ _ (s1 _ _ h)), .of (s2 _ _ (s1 _ _ h')), by rw [r.length, r'.length, zipD_len]; omega⟩⟩
  obtain ⟨x, y, e1, e2, rfl⟩ := zipD_get e
  obtain ⟨v, h1, h2⟩ := r.get e1
  obtain ⟨w, g1, g2⟩ := r'.get e2
  have hq : SqT K H a vs := .of (s2 _ _ (s1 _ _ h))
  have hq' : SqT K H b ws := .of (s2 _ _ (s1 _ _ h'))
  refine ⟨⟨vs, ws, v, w, hq, hq', h1, g1⟩, fun y H' yy => ?_⟩
  obtain ⟨T, z, z', rfl, n, rfl, yy, yy'⟩ := yy
  have e1 := yy vs hq
  rw [h1] at e1
  cases e1
  have e2 := yy' ws hq'
  rw [g1] at e2
  cases e2
  exact pair_new s2 n (h2.mono s1) (g2.mono s1)
/-- two lists, two tuples -/
def zipIn : D → D → Option (List D)
  | .lst xs, .lst ys => some (zipD xs ys)
  | .tup xs, .tup ys => some (zipD xs ys)
  | _, _ => none
def mZipA (a b : ME) : ML := fun Γ => (a Γ).bind fun x => (b Γ).bind fun y => zipIn x y
theorem i_zip (hg : Gl X "zip") (hm : X.mg "zip" = none) (ha : PE X e (rdE X.K ma)) (hb : PE X e2 (rdE X.K mb)) (hs : starEach [e, e2] X.env = (false, eval e X.env) :: starEach [e2] X.env := by rfl)
    (hs2 : starEach [e2] X.env = (false, eval e2 X.env) :: starEach [] X.env := by rfl) (hpl : ∀ p, (backTo p (starEach [e2] X.env)).any (·.1) = false := by intro _; rfl) :
    PI X (.Tuple elts kk tpos) (.Call (.Name "zip" p) [e, e2] [] pos) (rdI X.K (mZipA ma mb)) :=
  PI_wk (RZ.pi_zipA hg hm (r_pcons ha (r_pcons hb r_pnil hs2) hs) hs (hpl _)) fun σ H R ⟨H0, F, Γ, xs, R0, z, q⟩ => by
    obtain ⟨x, e1, z⟩ := Option.bind_eq_some_iff.mp z
    obtain ⟨y, e2, z⟩ := Option.bind_eq_some_iff.mp z
    refine ⟨H0, F, Γ, [x, y], R0, by simp only [mCons, mNil, e1, e2, Option.bind_some], fun vs H' F' E r => ?_⟩
    cases r with
    | cons r1 r =>
      cases r with
      | cons r2 r =>
        cases r
        unfold zipIn at z
        split at z
        · cases z
          obtain ⟨a, us, rfl, h1, q1⟩ := r1.lstI
          obtain ⟨b, ws, rfl, h2, q2⟩ := r2.lstI
          exact ⟨a, b, us, ws, rfl, .inl ⟨.of (E.fh _ _ h1), .of (E.fh _ _ h2), q _ H' F' E (itz_ok h1 h2 q1 q2)⟩⟩
        · cases z
          obtain ⟨a, us, rfl, h1, q1⟩ := r1.tupI
          obtain ⟨b, ws, rfl, h2, q2⟩ := r2.tupI
          exact ⟨a, b, us, ws, rfl, .inr ⟨.of (E.fh _ _ h1), .of (E.fh _ _ h2), q _ H' F' E (itzT_ok h1 h2 q1 q2)⟩⟩
        · cases z
/-- enumerate of a list -/
def lstIn : D → Option (List D)
  | .lst xs => some (enumD xs)
  | _ => none
def mEnumL (a : ME) : ML := fun Γ => (a Γ).bind lstIn
theorem i_enumL (hg : Gl X "enumerate") (hm : X.mg "enumerate" = none) (ha : PE X e (rdE X.K ma)) (hs2 : starEach [e] X.env = (false, eval e X.env) :: starEach [] X.env := by rfl) : PI X (.Tuple elts kk tpos) (.Call (.Name "enumerate" p) [e] [] pos) (rdI X.K (mEnumL ma)) :=
  PI_wk (pi_enum hg hm (r_pcons ha r_pnil hs2) hs2) fun σ H R ⟨H0, F, Γ, xs, R0, z, q⟩ => by
    obtain ⟨x, e1, z⟩ := Option.bind_eq_some_iff.mp z
    refine ⟨H0, F, Γ, [x], R0, by simp only [mCons, mNil, e1, Option.bind_some], fun vs H' F' E r => ?_⟩
    cases r with
    | cons r1 r =>
      cases r
      unfold lstIn at z
      split at z
      · cases z
        obtain ⟨a, us, rfl, h1, q1⟩ := r1.lstI
        exact ⟨a, us, rfl, .of (E.fh _ _ h1), q _ H' F' E (ite_ok h1 q1)⟩
      · cases z
end
end SK

set_option Elab.async false
set_option linter.all false
set_option maxRecDepth 100000
set_option maxHeartbeats 4000000
set_option autoImplicit false
namespace SK
open PySem PySem.Spec PyProof.Rows L2
section
variable {P : Program} {w : World} {K : PySem.W.Frag} {mg : Str → Option Value} {base : Heap}
theorem never_ok {k : Nat} {f : Addr} {fd : FuncData} {ps : List Str} : FnOk P w K mg base CX0 k f fd ps (spF K fun _ => none) :=
  ⟨fun vs H Q E ⟨F, ds, d, _, _, e, _⟩ => (by cases e), fun A outer s H args us vs Q E _ _ _ _ h => by
    obtain ⟨F, ds, d, _, _, e, _⟩ := h
    cases e⟩
def dAddI := fI fun i j => some (.int (i + j))
theorem d_addI : Op2 K dAddI (rI0 fun i j => .int (i + j)) := op2I0 fun _ _ _ h => some_eq h
end
/-! a new list that is never changed -/
def sSetF (i : Nat) (m : ME) : MS := fun Γ => (m Γ).map fun d => (.nx, Γ.set i (.val d))
theorem frz1_set (i : Nat) (Γ : En) (d : D) : frz1 i (Γ.set i (.own d)) = Γ.set i (.val d) := by
  unfold frz1
  by_cases h : i < Γ.length
  · rw [get_set h]
    show (Γ.set i (.own d)).set i (.val d) = _
    rw [List.set_set]
  · rw [List.set_eq_of_length_le (Nat.le_of_not_lt h), List.set_eq_of_length_le (Nat.le_of_not_lt h), List.getElem?_eq_none (Nat.le_of_not_lt h)]
section
variable {X : Cx} {H0 : Hp} {st : Stmt} {m : ME} {i : Nat}
theorem s_setF (h : PS X st (rdS X.K H0 (sSet i (xO m)))) : PS X st (rdS X.K H0 (sSetF i m)) :=
  PS_wk h fun D0 σ H ⟨F, Γ, fl, Γ', R, z, q⟩ => by
    obtain ⟨d, e1, z⟩ := Option.map_eq_some_iff.mp z
    cases z
    refine ⟨F, Γ, .nx, Γ.set i (.own d), R, by unfold sSet xO; rw [e1]; rfl, fun σ1 H1 F1 G1 R1 => ?_⟩
    obtain ⟨F2, s2, n2, R2⟩ := R1.freeze i
    rw [frz1_set] at R2
    exact q σ1 H1 F2 (G1.trans ⟨s2, n2⟩) R2
end
/-! two clauses -/
section
variable {X : Cx} {tg elt iter tg1 iter1 c : Expr} {ifs ifs1 : List Expr} {scope : Scope} {own : List (Str × Nat)} {pos : Pos} {ml ml1 : ML} {g g1 : MG} {mt mt1 : MT} {me : ME} {ws ws1 vs1 : List Nat}
theorem r_lc2 (hc : X.calm = true) (hN : X.N.Nodup) (hi : PI X tg iter (rdI X.K ml)) (ok : BlkOk X.N X.env.scope scope own) (hv : ∀ i ∈ vs1, i ∈ own.map (·.2))
    (hg : ∀ (s : Shared) (H : Hp) (C : Addr) (cl : List (Str × Addr)) (fp : List Addr), PG (X.blk s H scope (compEnvC scope cl C X.env) fp) tg (rdG X.K ws g)) (ht : ∀ (s : Shared) (H : Hp) (C : Addr) (cl : List (Str × Addr)) (fp : List Addr), PTs (X.blk s H scope (compEnvC scope cl C X.env) fp) ifs (rdT X.K mt))
    (hi1 : ∀ (s : Shared) (H : Hp) (C : Addr) (cl : List (Str × Addr)) (fp : List Addr), PI (X.blk s H scope (compEnvC scope cl C X.env) fp) tg1 iter1 (rdI X.K ml1))
    (hg1 : ∀ (s : Shared) (H : Hp) (C : Addr) (cl : List (Str × Addr)) (fp : List Addr), PG (X.blk s H scope (compEnvC scope cl C X.env) fp) tg1 (rdG X.K ws1 g1)) (ht1 : ∀ (s : Shared) (H : Hp) (C : Addr) (cl : List (Str × Addr)) (fp : List Addr), PTs (X.blk s H scope (compEnvC scope cl C X.env) fp) ifs1 (rdT X.K mt1))
    (he : ∀ (s : Shared) (H : Hp) (C : Addr) (cl : List (Str × Addr)) (fp : List Addr), PE (X.blk s H scope (compEnvC scope cl C X.env) fp) elt (rdE X.K me)) (hw : ∀ i ∈ ws, i ∈ own.map (·.2) := by decide) (hw1 : ∀ i ∈ ws1, i ∈ vs1 := by decide)
    (hs : ∀ x, foldedSetIterable iter X.env x = pure x := by intro _; rfl) (hs1 : ∀ env x, foldedSetIterable iter1 env x = pure x := by intro _ _; rfl) :
    PE X (.ListComp elt [⟨tg, iter, ifs, 0⟩, ⟨tg1, iter1, ifs1, 0⟩] scope pos) (rdN X.K (mLc2 ml g mt ml1 g1 mt1 me (own.map (·.2)) vs1)) :=
  PE.wk (pe_lc2 hc hN hi ok hv hg ht hi1 hg1 ht1 he hs hs1) fun _ _ _ h => lc2_of hw hw1 h
theorem s_setLc2 (i : Nat) {H0 : Hp} {y : Str} {py spos : Pos} (hc : X.calm = true) (hN : X.N.Nodup) (hi : PI X tg iter (rdI X.K ml)) (ok : BlkOk X.N X.env.scope scope own) (hv : ∀ i ∈ vs1, i ∈ own.map (·.2))
    (hg : ∀ (s : Shared) (H : Hp) (C : Addr) (cl : List (Str × Addr)) (fp : List Addr), PG (X.blk s H scope (compEnvC scope cl C X.env) fp) tg (rdG X.K ws g)) (ht : ∀ (s : Shared) (H : Hp) (C : Addr) (cl : List (Str × Addr)) (fp : List Addr), PTs (X.blk s H scope (compEnvC scope cl C X.env) fp) ifs (rdT X.K mt))
    (hi1 : ∀ (s : Shared) (H : Hp) (C : Addr) (cl : List (Str × Addr)) (fp : List Addr), PI (X.blk s H scope (compEnvC scope cl C X.env) fp) tg1 iter1 (rdI X.K ml1))
    (hg1 : ∀ (s : Shared) (H : Hp) (C : Addr) (cl : List (Str × Addr)) (fp : List Addr), PG (X.blk s H scope (compEnvC scope cl C X.env) fp) tg1 (rdG X.K ws1 g1)) (ht1 : ∀ (s : Shared) (H : Hp) (C : Addr) (cl : List (Str × Addr)) (fp : List Addr), PTs (X.blk s H scope (compEnvC scope cl C X.env) fp) ifs1 (rdT X.K mt1))
    (he : ∀ (s : Shared) (H : Hp) (C : Addr) (cl : List (Str × Addr)) (fp : List Addr), PE (X.blk s H scope (compEnvC scope cl C X.env) fp) elt (rdE X.K me))
    (hsw : swapsWith (.ListComp elt [⟨tg, iter, ifs, 0⟩, ⟨tg1, iter1, ifs1, 0⟩] scope pos) (some (.Name y py)) spos.line X.env = pure true) (hy : X.N[i]? = some y := by rfl) (hyl : X.env.scope.names.lookup y = some .local := by rfl) (hw : ∀ i ∈ ws, i ∈ own.map (·.2) := by decide) (hw1 : ∀ i ∈ ws1, i ∈ vs1 := by decide)
    (hs : ∀ x, foldedSetIterable iter X.env x = pure x := by intro _; rfl) (hs1 : ∀ env x, foldedSetIterable iter1 env x = pure x := by intro _ _; rfl) :
    PS X (.Assign [.Name y py] (.ListComp elt [⟨tg, iter, ifs, 0⟩, ⟨tg1, iter1, ifs1, 0⟩] scope pos) spos) (rdS X.K H0 (sSet i (xO (mLc2 ml g mt ml1 g1 mt1 me (own.map (·.2)) vs1)))) :=
  PS_wk (ps_setLc2 hc hN hy hyl hsw hi ok hv hg ht hi1 hg1 ht1 he hs hs1) fun _ _ _ h => set_of (fun _ _ _ h => lc2_of hw hw1 h) h
end
/-! a, b, c = x, y, z -/
def sPar3 (i j l : Nat) (a b c : MX) : MS := fun Γ => (a Γ).bind fun s => (b Γ).bind fun t => (c Γ).map fun u => (.nx, ((Γ.set i s).set j t).set l u)
section
variable {X : Cx} {H0 : Hp} {a b c : Expr} {pos : Pos} {mx my mz : MX}
theorem s_par3 (i j l : Nat) {x y z : Str} {px py pz pt : Pos} {kt k2 pt2} (hc : X.calm = true) (hN : X.N.Nodup) (ha : PE X a (rdX X.K mx)) (hb : PE X b (rdX X.K my)) (hc' : PE X c (rdX X.K mz))
    (hw : swappedStores [.Tuple [.Name x px, .Name y py, .Name z pz] kt pt] (.Tuple [a, b, c] k2 pt2) X.env = pure (some [x, y, z])) (hi : X.N[i]? = some x := by rfl) (hj : X.N[j]? = some y := by rfl) (hl : X.N[l]? = some z := by rfl) (hij : i ≠ j := by decide) (hil : i ≠ l := by decide) (hjl : j ≠ l := by decide)
    (hx : X.env.scope.names.lookup x = some .local := by rfl) (hy : X.env.scope.names.lookup y = some .local := by rfl) (hz : X.env.scope.names.lookup z = some .local := by rfl)
    (hs : swapsWithSole [.Tuple [.Name x px, .Name y py, .Name z pz] kt pt] (.Tuple [a, b, c] k2 pt2) pos.line X.env = pure false := by rfl) (na : starEach [a, b, c] X.env = (false, eval a X.env) :: starEach [b, c] X.env := by rfl)
    (nb : starEach [b, c] X.env = (false, eval b X.env) :: starEach [c] X.env := by rfl) (nc : starEach [c] X.env = (false, eval c X.env) :: starEach [] X.env := by rfl) :
    PS X (.Assign [.Tuple [.Name x px, .Name y py, .Name z pz] kt pt] (.Tuple [a, b, c] k2 pt2) pos) (rdS X.K H0 (sPar3 i j l mx my mz)) :=
  PS_wk (ps_par3 hc hN hi hj hl hij hil hjl hx hy hz (pa_cons ha (pa_cons hb (pa_cons hc' pa_nil nc) nb) na) hw hs) fun D0 σ H ⟨F, Γ, fl, Γ', R, z, q⟩ => by
    obtain ⟨s, e1, z⟩ := Option.bind_eq_some_iff.mp z
    obtain ⟨t, e2, z⟩ := Option.bind_eq_some_iff.mp z
    obtain ⟨u, e3, z⟩ := Option.map_eq_some_iff.mp z
    cases z
    refine ⟨H0, F, Γ, s, R, e1, fun v H1 F1 E1 r1 => ⟨H0, F1, Γ, t, R.ext E1, e2, fun w H2 F2 E2 r2 => ⟨H0, F2, Γ, u, (R.ext E1).ext E2, e3, fun w' H3 F3 E3 r3 => ⟨v, w, w', rfl, ?_⟩⟩⟩⟩
    have h1 := R.h0.trans E1.h
    exact q _ H3 F3 (((Grow.ext R.h0 E1).trans (Grow.ext h1 E2)).trans (Grow.ext (h1.trans E2.h) E3)) (((R.setX E1 r1 i).setX E2 r2 j).setX E3 r3 l)
end
end SK

set_option Elab.async false
set_option linter.all false
set_option maxRecDepth 100000
set_option maxHeartbeats 4000000
set_option autoImplicit false
namespace SK
open PySem PySem.Spec PyProof.Rows L2

/-! ### two readings of one expression -/
section
variable {X : Cx} {e : Expr}
theorem PE_or {t1 t2 : TE} (h1 : PE X e t1) (h2 : PE X e t2) : PE X e (fun σ H Q => t1 σ H Q ∨ t2 σ H Q) := ⟨fun pins s σ H Q I h => by
  rcases h with h | h
  · exact h1.run pins s σ H Q I h
  · exact h2.run pins s σ H Q I h⟩
end
/-! ### sorted -/
def insI (x : Int) : List Int → List Int
  | [] => [x]
  | y :: ys => if x ≤ y then x :: y :: ys else y :: insI x ys
def sortI : List Int → List Int
  | [] => []
  | x :: xs => insI x (sortI xs)
theorem insI_perm (x : Int) : ∀ ys : List Int, (insI x ys).Perm (x :: ys)
  | [] => .refl _
  | y :: ys => by
    unfold insI
    split
    · exact .refl _
    · exact ((insI_perm x ys).cons y).trans (.swap x y ys)
theorem sortI_perm : ∀ xs : List Int, (sortI xs).Perm xs
  | [] => .refl _
  | x :: xs => (insI_perm x _).trans ((sortI_perm xs).cons x)
theorem insI_sorted (x : Int) : ∀ ys : List Int, ys.Pairwise (· ≤ ·) → (insI x ys).Pairwise (· ≤ ·)
  | [], _ => List.pairwise_singleton _ _
  | y :: ys, h => by
    unfold insI
    obtain ⟨h1, h2⟩ := List.pairwise_cons.mp h
    split
    · rename_i c
      exact List.pairwise_cons.mpr ⟨fun z hz => by
        rcases List.mem_cons.mp hz with rfl | hz
        · exact c
        · exact Int.le_trans c (h1 z hz), h⟩
    · rename_i c
      refine List.pairwise_cons.mpr ⟨fun z hz => ?_, insI_sorted x ys h2⟩
      rcases List.mem_cons.mp ((insI_perm x ys).mem_iff.mp hz) with rfl | hz
      · exact Int.le_of_lt (Int.not_le.mp c)
      · exact h1 z hz
theorem sortI_sorted : ∀ xs : List Int, (sortI xs).Pairwise (· ≤ ·)
  | [] => .nil
  | x :: xs => insI_sorted x _ (sortI_sorted xs)
theorem perm_sorted_eq {α : Type} {r : α → α → Prop} (anti : ∀ a b, r a b → r b a → a = b) : ∀ {xs ys : List α}, xs.Perm ys → xs.Pairwise r → ys.Pairwise r → xs = ys
  | [], ys, p, _, _ => by rw [List.nil_perm.mp p]
  | x :: xs, [], p, _, _ => absurd (List.perm_nil.mp p) (List.cons_ne_nil _ _)
  | x :: xs, y :: ys, p, hx, hy => by
    obtain ⟨x1, x2⟩ := List.pairwise_cons.mp hx
    obtain ⟨y1, y2⟩ := List.pairwise_cons.mp hy
    have e : x = y := by
      rcases List.mem_cons.mp (p.mem_iff.mp List.mem_cons_self) with e | mx
      · exact e
      · rcases List.mem_cons.mp (p.mem_iff.mpr List.mem_cons_self) with e | my
        · exact e.symm
        · exact anti _ _ (x1 y my) (y1 x mx)
    subst e
    rw [perm_sorted_eq anti ((List.perm_cons x).mp p) x2 y2]
theorem sortI_eq {xs ys : List Int} (p : ys.Perm xs) (s : ys.Pairwise (· ≤ ·)) : ys = sortI xs :=
  perm_sorted_eq (fun _ _ => Int.le_antisymm) (p.trans (sortI_perm xs).symm) s (sortI_sorted xs)
/-! pairs of ints -/
abbrev leP (p q : Int × Int) : Prop := SrtO.lexB q p = false
def insP (x : Int × Int) : List (Int × Int) → List (Int × Int)
  | [] => [x]
  | y :: ys => if SrtO.lexB y x then y :: insP x ys else x :: y :: ys
def sortP : List (Int × Int) → List (Int × Int)
  | [] => []
  | x :: xs => insP x (sortP xs)
theorem leP_anti {p q : Int × Int} (h : leP p q) (k : leP q p) : p = q := by
  have a := SrtO.lexB_no.mp h
  have b := SrtO.lexB_no.mp k
  cases p; cases q
  simp only at a b
  rw [Prod.mk.injEq]
  omega
theorem leP_trans {p q r : Int × Int} (h : leP p q) (k : leP q r) : leP p r := by
  have a := SrtO.lexB_no.mp h
  have b := SrtO.lexB_no.mp k
  refine SrtO.lexB_no.mpr ?_
  omega
theorem leP_of {p q : Int × Int} (h : SrtO.lexB p q = true) : leP p q := by
  have a := SrtO.lexB_iff.mp h
  refine SrtO.lexB_no.mpr ?_
  omega
theorem insP_perm (x : Int × Int) : ∀ ys : List (Int × Int), (insP x ys).Perm (x :: ys)
  | [] => .refl _
  | y :: ys => by
    unfold insP
    split
    · exact ((insP_perm x ys).cons y).trans (.swap x y ys)
    · exact .refl _
theorem sortP_perm : ∀ xs : List (Int × Int), (sortP xs).Perm xs
  | [] => .refl _
  | x :: xs => (insP_perm x _).trans ((sortP_perm xs).cons x)
theorem insP_sorted (x : Int × Int) : ∀ ys : List (Int × Int), ys.Pairwise leP → (insP x ys).Pairwise leP
  | [], _ => List.pairwise_singleton _ _
  | y :: ys, h => by
    unfold insP
    obtain ⟨h1, h2⟩ := List.pairwise_cons.mp h
    split
    · rename_i c
      refine List.pairwise_cons.mpr ⟨fun z hz => ?_, insP_sorted x ys h2⟩
      rcases List.mem_cons.mp ((insP_perm x ys).mem_iff.mp hz) with rfl | hz
      · exact leP_of c
      · exact h1 z hz
    · rename_i c
      have c' : leP x y := Bool.eq_false_iff.mpr c
      exact List.pairwise_cons.mpr ⟨fun z hz => by
        rcases List.mem_cons.mp hz with rfl | hz
        · exact c'
        · exact leP_trans c' (h1 z hz), h⟩
theorem sortP_sorted : ∀ xs : List (Int × Int), (sortP xs).Pairwise leP
  | [] => .nil
  | x :: xs => insP_sorted x _ (sortP_sorted xs)
theorem sortP_eq {xs ys : List (Int × Int)} (p : ys.Perm xs) (s : ys.Pairwise leP) : ys = sortP xs :=
  perm_sorted_eq (fun _ _ => leP_anti) (p.trans (sortP_perm xs).symm) s (sortP_sorted xs)
def pairD (p : Int × Int) : D := .tup [.int p.1, .int p.2]
def pairOf : D → Option (Int × Int)
  | .tup [.int i, .int j] => some (i, j)
  | _ => none
def pairsOf : List D → Option (List (Int × Int))
  | [] => some []
  | d :: r => (pairOf d).bind fun p => (pairsOf r).map (p :: ·)
theorem pairOf_some {d : D} {p : Int × Int} (h : pairOf d = some p) : d = pairD p := by
  unfold pairOf at h
  split at h
  · cases h; rfl
  · cases h
theorem pairsOf_some : ∀ {ds : List D} {ps : List (Int × Int)}, pairsOf ds = some ps → ds = ps.map pairD
  | [], _, h => by cases h; rfl
  | d :: r, _, h => by
    obtain ⟨p, e, h⟩ := Option.bind_eq_some_iff.mp h
    obtain ⟨qs, e2, rfl⟩ := Option.map_eq_some_iff.mp h
    rw [pairOf_some e, pairsOf_some e2]; rfl
theorem pairsOf_map : ∀ ps : List (Int × Int), pairsOf (ps.map pairD) = some ps
  | [] => rfl
  | p :: ps => by
    show (some p).bind (fun p => (pairsOf (ps.map pairD)).map (p :: ·)) = _
    rw [pairsOf_map ps]; rfl
def dSorted : List D → Option D
  | [.lst xs] => match intsOf xs with
    | some ns => some (.lst ((sortI ns).map .int))
    | none => (pairsOf xs).map fun ps => .lst ((sortP ps).map pairD)
  | _ => none
def rSortedA (K : PySem.W.Frag) : List V → Hp → VK → Prop := fun vs H Q => rSortedI K vs H Q ∨ rSortedPO K vs H Q
section
variable {X : Cx} {K : PySem.W.Frag}
theorem op_sorted : CallR X (.builtin "sorted") (rSortedA X.K) := CallR.or cr_sortedI cr_sortedPO
/-- the pair that stands at a value -/
def keyP (F : Hp) : V → Int × Int
  | .ref t => match F t with
    | some (.tup [.int i, .int j]) => (i, j)
    | _ => (0, 0)
  | _ => (0, 0)
theorem keyP_rep {F : Hp} {v : V} {p : Int × Int} (r : Rep K F v (pairD p)) : keyP F v = p ∧ ∃ t, v = .ref t ∧ F t = some (.tup [.int p.1, .int p.2]) := by
  obtain ⟨a, vs, rfl, h, r⟩ := Rep.tupI r
  cases r with
  | cons r1 r =>
    cases r with
    | cons r2 r =>
      cases r
      rw [r1.intI, r2.intI] at h
      refine ⟨?_, a, rfl, h⟩
      unfold keyP
      simp only [h]
theorem rep_pairs {F : Hp} : ∀ {vs : List V} {ps : List (Int × Int)}, RepL K F vs (ps.map pairD) → vs.map (keyP F) = ps ∧ ∀ v ∈ vs, ∃ t, v = .ref t ∧ F t = some (.tup [.int (keyP F v).1, .int (keyP F v).2])
  | _, [], r => by cases r; exact ⟨rfl, fun _ h => absurd h (List.not_mem_nil)⟩
  | _, p :: ps, r => by
    cases r with
    | cons h r =>
      obtain ⟨k1, k2⟩ := keyP_rep h
      obtain ⟨i1, i2⟩ := rep_pairs r
      refine ⟨by rw [List.map_cons, k1, i1], fun v hv => ?_⟩
      rcases List.mem_cons.mp hv with rfl | hv
      · rw [k1]; exact k2
      · exact i2 v hv
theorem rep_pairs_of {F : Hp} : ∀ {vs : List V}, (∀ v ∈ vs, ∃ t, v = .ref t ∧ F t = some (.tup [.int (keyP F v).1, .int (keyP F v).2])) → RepL K F vs ((vs.map (keyP F)).map pairD)
  | [], _ => .nil
  | v :: vs, h => by
    obtain ⟨t, e, ht⟩ := h v List.mem_cons_self
    refine .cons ?_ (rep_pairs_of fun w hw => h w (List.mem_cons_of_mem _ hw))
    generalize keyP F v = p at ht ⊢
    subst e
    exact .ob ht (.tup (.cons (.int _) (.cons (.int _) .nil)))
theorem d_sorted : Fn1N K dSorted (rSortedA K) := by
  intro F H vs ds d Q s r e q
  unfold dSorted at e
  split at e
  · obtain ⟨v, rfl, rr⟩ := bl1 r
    obtain ⟨a, ws, rfl, h1, r1⟩ := rr.lst s
    split at e
    · rename_i ns e1
      cases e
      rw [ints_rep e1 r1] at h1
      refine .inl ⟨a, ns, rfl, .of h1, fun ns' p hp hs np => ?_⟩
      rw [sortI_eq hp hs]
      exact q p _ _ F (Ext.own s np) np (s.free np) upd_same rfl (.lst (rep_ints _))
    · obtain ⟨ps, e1, rfl⟩ := Option.map_eq_some_iff.mp e
      rw [pairsOf_some e1] at r1
      obtain ⟨k1, k2⟩ := rep_pairs r1
      refine .inr ⟨a, ws, keyP F, rfl, .of h1, fun x hx => ?_, fun ys p hs hb np => ?_⟩
      · obtain ⟨t, e, ht⟩ := k2 x hx
        exact ⟨t, e, s _ _ ht⟩
      · have e : ys.map (keyP F) = sortP ps := sortP_eq (by rw [← k1]; exact hb.perm.map _) (by
          rw [List.pairwise_map]
          exact hs.imp fun h => h)
        have rp := rep_pairs_of (K := K) (F := F) (vs := ys) fun v hv => k2 v (hb.perm.mem_iff.mp hv)
        rw [e] at rp
        exact q p _ _ F (Ext.own s np) np (s.free np) upd_same rfl (.lst rp)
  · cases e
end
/-! ### xs[::-1] -/
def dRev : D → Option D := dRevL
section
variable {X : Cx} {a : Expr} {ma : ME} {k : Nat} {p1 p2 p3 pos : Pos}
theorem r_rev (ha : PE X a (rdB X.K ma)) : PE X (.Subscript a (.Slice none none (some (.UnaryOp .USub (.Constant (.int 1) k p1) p2)) p3) pos) (rdE X.K (mUn dRev ma)) := ofN (r_revN ha)
end
end SK

set_option Elab.async false
set_option linter.all false
set_option maxRecDepth 100000
set_option maxHeartbeats 4000000
set_option autoImplicit false
namespace SK
open PySem PySem.Spec PyProof.Rows L2
/-- a def as the head tells it -/
theorem def_at {fa : List He.Fa} {fn : List He.FnD} {K : PySem.W.Frag} {h : Heap} {mg : Str → Option Value} (X : K.In h) (G : h.Ns mainGlobals mg) (c : He.SaysE fa fn K) (x : Str) (st : Stmt) (ps : List Str) (i j k : Nat)
    (h1 : fn[i]? = some ⟨(x, none), x, x, defArgs st, defBody st, defScope st⟩) (h2 : fa[j]? = some (.glo x)) (h3 : fa[k]? = some (.keep x))
    (hb : ∀ (kV doc pm : Value) (an : Option Addr) (cdv ct : Value) (us : List Value), us.length = ps.length → bindArgs (PySem.W.fnOf x x (defArgs st) (defBody st) (defScope st) .none kV doc pm an cdv ct) ⟨us, []⟩ = pure (ps.zip us)) :
    ∃ (f : Addr) (fd : FuncData), Fun K x x st f fd ∧ mg x = some (.ref f) ∧ Binds K fd ps [] ∧ ∀ (s : Shared) (us : List Value), us.length = ps.length → BindsTo s fd ⟨us, []⟩ (ps.zip us) := by
  obtain ⟨oc, od, osl, kV, doc, pm, an, cdv, ct, l, cd⟩ := c.def_ i h1
  have F := fun_mk (x := x) (qual := x) (st := st) l cd (He.keep_ok (c.fact k h3))
  exact ⟨_, _, F, He.glo_ok X G (c.fact j h2), F.binds hb, fun s us hl => .of_eq (hb _ _ _ _ _ _ us hl)⟩
theorem free_at {fa : List He.Fa} {fn : List He.FnD} {K : PySem.W.Frag} {h : Heap} {mg : Str → Option Value} (X : K.In h) (G : h.Ns mainGlobals mg) (c : He.SaysE fa fn K) (x : Str) (j : Nat) (h2 : fa[j]? = some (.free x)) : mg x = none :=
  He.free_ok X G (c.fact j h2)
theorem int_at {fa : List He.Fa} {fn : List He.FnD} {K : PySem.W.Frag} {h : Heap} {mg : Str → Option Value} (X : K.In h) (G : h.Ns mainGlobals mg) (c : He.SaysE fa fn K) (x : Str) (i : Int) (j : Nat) (h2 : fa[j]? = some (.int x i)) : ∃ t, mg x = some (.int i t) :=
  He.int_ok X G (c.fact j h2)
end SK

set_option Elab.async false
set_option linter.all false
set_option maxRecDepth 100000
set_option autoImplicit false
namespace SK
open PySem PySem.Spec PyProof.Rows L2
/-! the defs that every law has -/
def b__law_mixed : MS :=
  (sSq (sSet 2 (xV (mC (.int 0)))) (sSq (sIf (mTB (mBin dGt (mCall dLen (mCons (mVarB 0) mNil)) (mC (.int 0)))) (sSet 2 (xV (mBin dIx (mVarB 0) (mBin dMod (mVarB 1) (mCall dLen (mCons (mVarB 0) mNil)))))) sNx) (sSq (sSet 3 (xV (mBin dMod (mCall dInt1 (mCons (mBin dAdd (mBin dAdd (mBin dMulI (mVarB 2) (mC (.int 48271))) (mBin dMulI (mVarB 1) (mC (.int 69621)))) (mC (.int 8191))) mNil)) (mC (.int 2147483647))))) (sSq (sSet 4 (xV (mBin dMod (mCall dInt1 (mCons (mBin dAdd (mBin dAdd (mBin dMulI (mVarB 3) (mVarB 3)) (mBin dDiv (mVarB 3) (mC (.int 7)))) (mBin dMulI (mVarB 1) (mC (.int 16807)))) mNil)) (mC (.int 2147483629))))) (sSq (sSet 5 (xV (mBin dMod (mCall dInt1 (mCons (mBin dAdd (mBin dAdd (mBin dMulI (mVarB 4) (mVarB 4)) (mBin dDiv (mVarB 4) (mC (.int 11)))) (mC (.int 40692))) mNil)) (mC (.int 2147483563))))) (sRt (mBin dMod (mBin dDiv (mVarB 5) (mC (.int 5))) (mC (.int 1000003)))))))))
def m__law_mixed : List D → Option D := runFn 2 6 b__law_mixed
def b__law_row : MS :=
  (sSq (sSet 2 (xV (mC (.int 0)))) (sSq (sIf (mtAnd (mTB (mBin dGt (mCall dLen (mCons (mVarB 0) mNil)) (mC (.int 0)))) (mTB (mBin dGe (mBin dIx (mVarB 0) (mC (.int 0))) (mBin dPow (mC (.int 10)) (mC (.int 18)))))) (sSet 2 (xV (mBin dIx (mVarB 0) (mC (.int 0))))) sNx) (sSq (sSet 3 (xO (mLst mNil))) (sSq (sFor (mRng1 (mVarB 1)) (gN 4) (sIf (mTB (mBin dGt (mVarB 2) (mC (.int 0)))) (sSq (sApp 3 (mBin dMod (mCall dInt1 (mCons (mVarB 2) mNil)) (mC (.int 1000)))) (sSet 2 (xV (mBin dDiv (mVarB 2) (mC (.int 1000)))))) (sApp 3 (mCall m__law_mixed (mCons (mVar 0) (mCons (mVar 4) mNil)))))) (sFrz 3 (sRt (mVar 3)))))))
def m__law_row : List D → Option D := runFn 2 5 b__law_row
def b__law_is_int : MS :=
  (sRt (mAnd (mUn (dIsi .int) (mVarB 0)) (mNot (mUn (dIsi .bool) (mVarB 0)))))
def m__law_is_int : List D → Option D := runFn 1 1 b__law_is_int
def b__law_like (r : List D → Option D) : MS :=
  (sSq (sIf (mTB (mBin dIs (mVarB 1) (mC .non))) (sRt (mBin dIs (mVarB 0) (mC .non))) sNx) (sSq (sIf (mTru (mUn (dIsi .bool) (mVarB 1))) (sRt (mAnd (mUn (dIsi .bool) (mVarB 0)) (mBin dEq (mVarB 0) (mVarB 1)))) sNx) (sSq (sIf (mTru (mUn (dIsi .tuple) (mVarB 1))) (sSq (sIf (mtOr (mtNot (mTru (mUn (dIsi .tuple) (mVarB 0)))) (mTB (mBin dNe (mCall dLen (mCons (mVarB 0) mNil)) (mCall dLen (mCons (mVarB 1) mNil))))) (sRt (mC (.bl false))) sNx) (sRt (mCall dAll (mCons (mLc (mRng1 (mCall dLen (mCons (mVarB 1) mNil))) (gN 2) mYes (mCall r (mCons (mBin dIx (mVarB 0) (mVarB 2)) (mCons (mBin dIx (mVarB 1) (mVarB 2)) mNil))) [2]) mNil)))) sNx) (sSq (sIf (mTru (mUn (dIsi .str) (mVarB 1))) (sRt (mAnd (mUn (dIsi .str) (mVarB 0)) (mBin dEq (mVarB 0) (mVarB 1)))) sNx) (sRt (mAnd (mCall m__law_is_int (mCons (mVar 0) mNil)) (mBin dEq (mVarB 0) (mVarB 1))))))))
def m__law_like : Nat → List D → Option D
  | 0 => fun _ => none
  | n + 1 => runFn 2 3 (b__law_like (m__law_like n))
end SK

set_option Elab.async false
set_option linter.all false
set_option maxRecDepth 100000
set_option maxHeartbeats 4000000
set_option autoImplicit false
namespace SK
open PySem PySem.Spec PyProof.Rows L2

/-! ### loops and comprehensions, by what a turn does -/
section
variable {g : MG} {b : MS} {x : D} {xs : List D} {Γ Γ1 : En}
theorem mFor_nx (h : (g x Γ).bind b = some (.nx, Γ1)) : mFor g b (x :: xs) Γ = mFor g b xs Γ1 := by
  obtain ⟨Γ2, e1, e2⟩ := Option.bind_eq_some_iff.mp h
  show (g x Γ).bind _ = _
  rw [e1]
  show (match b Γ2 with | some (.nx, Γ2) => mFor g b xs Γ2 | some (.ct, Γ2) => mFor g b xs Γ2 | some (.bk, Γ2) => some (.nx, Γ2) | r => r) = _
  rw [e2]
theorem mFor_ct (h : (g x Γ).bind b = some (.ct, Γ1)) : mFor g b (x :: xs) Γ = mFor g b xs Γ1 := by
  obtain ⟨Γ2, e1, e2⟩ := Option.bind_eq_some_iff.mp h
  show (g x Γ).bind _ = _
  rw [e1]
  show (match b Γ2 with | some (.nx, Γ2) => mFor g b xs Γ2 | some (.ct, Γ2) => mFor g b xs Γ2 | some (.bk, Γ2) => some (.nx, Γ2) | r => r) = _
  rw [e2]
theorem mFor_bk (h : (g x Γ).bind b = some (.bk, Γ1)) : mFor g b (x :: xs) Γ = some (.nx, Γ1) := by
  obtain ⟨Γ2, e1, e2⟩ := Option.bind_eq_some_iff.mp h
  show (g x Γ).bind _ = _
  rw [e1]
  show (match b Γ2 with | some (.nx, Γ2) => mFor g b xs Γ2 | some (.ct, Γ2) => mFor g b xs Γ2 | some (.bk, Γ2) => some (.nx, Γ2) | r => r) = _
  rw [e2]
theorem mFor_rt {d : D} (h : (g x Γ).bind b = some (.rt d, Γ1)) : mFor g b (x :: xs) Γ = some (.rt d, Γ1) := by
  obtain ⟨Γ2, e1, e2⟩ := Option.bind_eq_some_iff.mp h
  show (g x Γ).bind _ = _
  rw [e1]
  show (match b Γ2 with | some (.nx, Γ2) => mFor g b xs Γ2 | some (.ct, Γ2) => mFor g b xs Γ2 | some (.bk, Γ2) => some (.nx, Γ2) | r => r) = _
  rw [e2]
end
/-! ### one step at a time -/
section
variable {a b : MS} {Γ Γ1 : En} {c : MT} {i : Nat} {d : D}
theorem sSq_nx (h : a Γ = some (.nx, Γ1)) : sSq a b Γ = b Γ1 := by unfold sSq; rw [h]
theorem sSq_rt (h : a Γ = some (.rt d, Γ1)) : sSq a b Γ = some (.rt d, Γ1) := by unfold sSq; rw [h]
theorem sIf_t (h : c Γ = some true) : sIf c a b Γ = a Γ := by unfold sIf; rw [h]; rfl
theorem sIf_f (h : c Γ = some false) : sIf c a b Γ = b Γ := by unfold sIf; rw [h]; rfl
theorem sSet_v {m : ME} (h : m Γ = some d) : sSet i (xV m) Γ = some (.nx, Γ.set i (.val d)) := by unfold sSet xV; rw [h]; rfl
theorem sSet_o {m : ME} (h : m Γ = some d) : sSet i (xO m) Γ = some (.nx, Γ.set i (.own d)) := by unfold sSet xO; rw [h]; rfl
theorem sSetF_of {m : ME} (h : m Γ = some d) : sSetF i m Γ = some (.nx, Γ.set i (.val d)) := by unfold sSetF; rw [h]; rfl
theorem sRt_of {m : ME} (h : m Γ = some d) : sRt m Γ = some (.rt d, Γ) := by unfold sRt; rw [h]; rfl
theorem sFor_of {ml : ML} {g : MG} {xs : List D} (h : ml Γ = some xs) : sFor ml g b Γ = mFor g b xs Γ := by unfold sFor; rw [h]; rfl
theorem mBin_of {f : D → D → Option D} {ma mb : ME} {x y : D} (ha : ma Γ = some x) (hb : mb Γ = some y) : mBin f ma mb Γ = f x y := by unfold mBin; rw [ha, hb]; rfl
theorem mUn_of {f : D → Option D} {ma : ME} {x : D} (ha : ma Γ = some x) : mUn f ma Γ = f x := by unfold mUn; rw [ha]; rfl
theorem mCall_of {f : List D → Option D} {ms : MA} {xs : List D} (h : ms Γ = some xs) : mCall f ms Γ = f xs := by unfold mCall; rw [h]; rfl
theorem mCons_of {ma : ME} {ms : MA} {x : D} {xs : List D} (ha : ma Γ = some x) (h : ms Γ = some xs) : mCons ma ms Γ = some (x :: xs) := by unfold mCons; rw [ha, h]; rfl
theorem mTB_of {m : ME} {t : Bool} (h : m Γ = some (.bl t)) : mTB m Γ = some t := by unfold mTB; rw [h]; rfl
theorem mLc_of {ml : ML} {g : MG} {el : ME} {vs : List Nat} {xs ys : List D} (h : ml Γ = some xs) (h2 : mLcL g c el (wipeE Γ vs) xs = some ys) (hl : ys.length ≤ LIM) : mLc ml g c el vs Γ = some (.lst ys) := by
  unfold mLc
  rw [h, Option.bind_some, h2, Option.bind_some, if_pos hl]
theorem run_rt {np nn : Nat} {ds : List D} (hl : ds.length = np) (h : b (ds.map Slot.val ++ List.replicate (nn - np) Slot.emp) = some (.rt d, Γ1)) : runFn np nn b ds = some d := by
  unfold runFn
  rw [if_pos hl, h]
end
theorem add_tup {m n : ME} {Γ : En} {xs ys : List D} (h : m Γ = some (.tup xs)) (h2 : n Γ = some (.tup ys)) (hl : xs.length + ys.length ≤ LIM) : mBin dAdd m n Γ = some (.tup (xs ++ ys)) := (mBin_of h h2).trans (if_pos hl)
/-! a run told by its ends -/
section
variable {a b : MS} {Γ Γ1 : En} {c : MT} {i j l : Nat} {d e f : D} {m n o : ME} {r : Option Fl}
theorem run_q {np nn : Nat} {ds : List D} (hl : ds.length = np) (h : (b (ds.map Slot.val ++ List.replicate (nn - np) Slot.emp)).map Prod.fst = some (.rt d)) : runFn np nn b ds = some d := by
  obtain ⟨⟨fl, Γ1⟩, h1, h2⟩ := Option.map_eq_some_iff.mp h
  cases h2
  exact run_rt hl h1
theorem q_nx (h : a Γ = some (.nx, Γ1)) (k : (b Γ1).map Prod.fst = r) : (sSq a b Γ).map Prod.fst = r := by rw [sSq_nx h]; exact k
theorem q_set (h : m Γ = some d) (k : (b (Γ.set i (.val d))).map Prod.fst = r) : (sSq (sSet i (xV m)) b Γ).map Prod.fst = r := q_nx (sSet_v h) k
theorem q_setO (h : m Γ = some d) (k : (b (Γ.set i (.own d))).map Prod.fst = r) : (sSq (sSet i (xO m)) b Γ).map Prod.fst = r := q_nx (sSet_o h) k
theorem q_setF (h : m Γ = some d) (k : (b (Γ.set i (.val d))).map Prod.fst = r) : (sSq (sSetF i m) b Γ).map Prod.fst = r := q_nx (sSetF_of h) k
theorem q_skip (h : c Γ = some false) (k : (b Γ).map Prod.fst = r) : (sSq (sIf c a sNx) b Γ).map Prod.fst = r := q_nx ((sIf_f h).trans rfl) k
theorem q_par (h : m Γ = some d) (h2 : n Γ = some e) (k : (b ((Γ.set i (.val d)).set j (.val e))).map Prod.fst = r) : (sSq (sPar i j (xV m) (xV n)) b Γ).map Prod.fst = r := q_nx (by unfold sPar xV; rw [h, h2]; rfl) k
theorem q_ret (h : m Γ = some d) : (sRt m Γ).map Prod.fst = some (.rt d) := by rw [sRt_of h]; rfl
theorem ev1 {g : List D → Option D} (h : m Γ = some d) (h2 : g [d] = some e) : mCall g (mCons m mNil) Γ = some e := (mCall_of (mCons_of h rfl)).trans h2
theorem ev2 {g : List D → Option D} {d2 : D} (h : m Γ = some d) (h1 : n Γ = some d2) (h2 : g [d, d2] = some e) : mCall g (mCons m (mCons n mNil)) Γ = some e := (mCall_of (mCons_of h (mCons_of h1 rfl))).trans h2
theorem ev3 {g : List D → Option D} {d2 d3 : D} (h : m Γ = some d) (h1 : n Γ = some d2) (h3 : o Γ = some d3) (h2 : g [d, d2, d3] = some e) : mCall g (mCons m (mCons n (mCons o mNil))) Γ = some e := (mCall_of (mCons_of h (mCons_of h1 (mCons_of h3 rfl)))).trans h2
theorem not_t (h : m Γ = some (.bl true)) : mtNot (mTru m) Γ = some false := by unfold mtNot mTru; rw [h]; rfl
theorem tru_f {t : Bool} (h : m Γ = some (.bl t)) : mTru m Γ = some t := by unfold mTru; rw [h]; rfl
theorem or_f {c1 c2 : MT} (h1 : c1 Γ = some false) (h2 : c2 Γ = some false) : mtOr c1 c2 Γ = some false := by unfold mtOr; rw [h1]; exact h2
theorem isnot_f {t : Bool} (h : m Γ = some (.bl t)) : mTB (mBin dIsNot m (mC (.bl t))) Γ = some false := by
  unfold mTB mBin mC; rw [h]; cases t <;> rfl
end
/-- a loop that never leaves: S by the items behind -/
theorem for_inv {g : MG} {b : MS} (S : List D → En → Prop) (step : ∀ x xs Γ, S (x :: xs) Γ → ∃ Γ', (g x Γ).bind b = some (.nx, Γ') ∧ S xs Γ') : ∀ (xs : List D) (Γ : En), S xs Γ → ∃ Γ', mFor g b xs Γ = some (.nx, Γ') ∧ S [] Γ'
  | [], Γ, h => ⟨Γ, rfl, h⟩
  | x :: xs, Γ, h => by
    obtain ⟨Γ1, e, h1⟩ := step x xs Γ h
    obtain ⟨Γ2, e2, h2⟩ := for_inv S step xs Γ1 h1
    exact ⟨Γ2, by rw [mFor_nx e, e2], h2⟩
/-- a loop that folds: the state a stands at the slots as Em says -/
theorem for_fold {α β : Type} {g : MG} {b : MS} (en : β → D) (f : α → β → α) (Em : α → En → Prop) (step : ∀ a x Γ, Em a Γ → ∃ Γ', (g (en x) Γ).bind b = some (.nx, Γ') ∧ Em (f a x) Γ') : ∀ (xs : List β) (a : α) (Γ : En), Em a Γ → ∃ Γ', mFor g b (xs.map en) Γ = some (.nx, Γ') ∧ Em (xs.foldl f a) Γ'
  | [], a, Γ, h => ⟨Γ, rfl, h⟩
  | x :: xs, a, Γ, h => by
    obtain ⟨Γ1, e, h1⟩ := step a x Γ h
    obtain ⟨Γ2, e2, h2⟩ := for_fold en f Em step xs (f a x) Γ1 h1
    exact ⟨Γ2, by rw [List.map_cons, mFor_nx e, e2], h2⟩
theorem for_foldm {α β : Type} {g : MG} {b : MS} (en : β → D) (f : α → β → α) (Em : α → En → Prop) : ∀ (xs : List β) (step : ∀ a, ∀ x ∈ xs, ∀ Γ, Em a Γ → ∃ Γ', (g (en x) Γ).bind b = some (.nx, Γ') ∧ Em (f a x) Γ') (a : α) (Γ : En), Em a Γ → ∃ Γ', mFor g b (xs.map en) Γ = some (.nx, Γ') ∧ Em (xs.foldl f a) Γ'
  | [], _, a, Γ, h => ⟨Γ, rfl, h⟩
  | x :: xs, step, a, Γ, h => by
    obtain ⟨Γ1, e, h1⟩ := step a x List.mem_cons_self Γ h
    obtain ⟨Γ2, e2, h2⟩ := for_foldm en f Em xs (fun a y hy => step a y (List.mem_cons_of_mem _ hy)) (f a x) Γ1 h1
    exact ⟨Γ2, by rw [List.map_cons, mFor_nx e, e2], h2⟩
theorem lcL_map {β : Type} {g : MG} {c : MT} {el : ME} {Γ : En} (en : β → D) (f : β → D) : ∀ (xs : List β), (∀ x ∈ xs, ∃ Γ1, g (en x) Γ = some Γ1 ∧ c Γ1 = some true ∧ el Γ1 = some (f x)) → mLcL g c el Γ (xs.map en) = some (xs.map f)
  | [], _ => rfl
  | x :: xs, h => by
    obtain ⟨Γ1, e1, e2, e3⟩ := h x List.mem_cons_self
    have ih := lcL_map en f xs fun y hy => h y (List.mem_cons_of_mem _ hy)
    show (g (en x) Γ).bind _ = _
    rw [e1]
    show (c Γ1).bind _ = _
    rw [e2]
    show (el Γ1).bind _ = _
    rw [e3]
    show (mLcL g c el Γ (xs.map en)).map _ = _
    rw [ih]
    rfl
theorem lcL_filter {β : Type} {g : MG} {c : MT} {el : ME} {Γ : En} (en : β → D) (p : β → Bool) (f : β → D) : ∀ (xs : List β), (∀ x ∈ xs, ∃ Γ1, g (en x) Γ = some Γ1 ∧ c Γ1 = some (p x) ∧ (p x = true → el Γ1 = some (f x))) → mLcL g c el Γ (xs.map en) = some ((xs.filter p).map f)
  | [], _ => rfl
  | x :: xs, h => by
    obtain ⟨Γ1, e1, e2, e3⟩ := h x List.mem_cons_self
    have ih := lcL_filter en p f xs fun y hy => h y (List.mem_cons_of_mem _ hy)
    show (g (en x) Γ).bind _ = _
    rw [e1]
    show (c Γ1).bind _ = _
    rw [e2]
    cases hp : p x with
    | false =>
      rw [List.filter_cons_of_neg (by rw [hp]; exact Bool.false_ne_true)]
      exact ih
    | true =>
      rw [List.filter_cons_of_pos hp]
      show (el Γ1).bind _ = _
      rw [e3 hp]
      show (mLcL g c el Γ (xs.map en)).map _ = _
      rw [ih]
      rfl
theorem q_for {α β : Type} {g : MG} {b rest : MS} {Γ : En} {r : Option Fl} {ml : ML} (en : β → D) (f : α → β → α) (Em : α → En → Prop) (xs : List β) (a : α) (hi : ml Γ = some (xs.map en)) (h0 : Em a Γ)
    (step : ∀ a, ∀ x ∈ xs, ∀ Γ, Em a Γ → ∃ Γ', (g (en x) Γ).bind b = some (.nx, Γ') ∧ Em (f a x) Γ') (k : ∀ Γ', Em (xs.foldl f a) Γ' → (rest Γ').map Prod.fst = r) : (sSq (sFor ml g b) rest Γ).map Prod.fst = r := by
  obtain ⟨Γ', e, h⟩ := for_foldm en f Em xs step a Γ h0
  exact q_nx ((sFor_of hi).trans e) (k Γ' h)
theorem q_blk {a rest : MS} {Γ : En} {r : Option Fl} (Em : En → Prop) (h : ∃ Γ1, a Γ = some (.nx, Γ1) ∧ Em Γ1) (k : ∀ Γ1, Em Γ1 → (rest Γ1).map Prod.fst = r) : (sSq a rest Γ).map Prod.fst = r := by
  obtain ⟨Γ1, e, h1⟩ := h
  exact q_nx e (k Γ1 h1)
/-- a loop told by the items behind it -/
theorem for_pre {β : Type} {g : MG} {b : MS} (en : β → D) (S : List β → En → Prop) : ∀ (rest done : List β) (step : ∀ d1 x d2, done ++ rest = d1 ++ x :: d2 → ∀ Γ, S d1 Γ → ∃ Γ', (g (en x) Γ).bind b = some (.nx, Γ') ∧ S (d1 ++ [x]) Γ') (Γ : En), S done Γ → ∃ Γ', mFor g b (rest.map en) Γ = some (.nx, Γ') ∧ S (done ++ rest) Γ'
  | [], done, _, Γ, h => ⟨Γ, rfl, by rw [List.append_nil]; exact h⟩
  | x :: rest, done, step, Γ, h => by
    obtain ⟨Γ1, e, h1⟩ := step done x rest rfl Γ h
    obtain ⟨Γ2, e2, h2⟩ := for_pre en S rest (done ++ [x]) (fun d1 y d2 hy => step d1 y d2 (by rw [← hy, List.append_assoc]; rfl)) Γ1 h1
    exact ⟨Γ2, by rw [List.map_cons, mFor_nx e, e2], by rw [List.append_assoc] at h2; exact h2⟩
theorem pre_for {β : Type} {g : MG} {b : MS} {Γ : En} {ml : ML} (en : β → D) (S : List β → En → Prop) (xs : List β) (hi : ml Γ = some (xs.map en)) (h0 : S [] Γ)
    (step : ∀ d1 x d2, xs = d1 ++ x :: d2 → ∀ Γ, S d1 Γ → ∃ Γ', (g (en x) Γ).bind b = some (.nx, Γ') ∧ S (d1 ++ [x]) Γ') : ∃ Γ', sFor ml g b Γ = some (.nx, Γ') ∧ S xs Γ' := by
  obtain ⟨Γ', e, h⟩ := for_pre en S xs [] step Γ h0
  exact ⟨Γ', (sFor_of hi).trans e, h⟩
theorem q_pre {β : Type} {g : MG} {b rest : MS} {Γ : En} {r : Option Fl} {ml : ML} (en : β → D) (S : List β → En → Prop) (xs : List β) (hi : ml Γ = some (xs.map en)) (h0 : S [] Γ)
    (step : ∀ d1 x d2, xs = d1 ++ x :: d2 → ∀ Γ, S d1 Γ → ∃ Γ', (g (en x) Γ).bind b = some (.nx, Γ') ∧ S (d1 ++ [x]) Γ') (k : ∀ Γ', S xs Γ' → (rest Γ').map Prod.fst = r) : (sSq (sFor ml g b) rest Γ).map Prod.fst = r := by
  obtain ⟨Γ', e, h⟩ := pre_for en S xs hi h0 step
  exact q_nx e (k Γ' h)
theorem sApp_of {i : Nat} {m : ME} {Γ : En} {xs : List D} {d : D} (h : Γ[i]? = some (.own (.lst xs))) (hm : m Γ = some d) (hl : xs.length < LIM) : sApp i m Γ = some (.nx, Γ.set i (.own (.lst (xs ++ [d])))) := by
  unfold sApp ownL
  rw [h, hm]
  show (if xs.length < LIM then _ else _) = _
  rw [if_pos hl]
/-! ### the drawn row -/
theorem okMul_r {i j : Int} (h : j.natAbs < 18446744073709551616) : okMul i j = true := by
  unfold okMul
  rw [two64, decide_eq_true h, Bool.or_true]
theorem okMul_l {i j : Int} (h : i.natAbs < 18446744073709551616) : okMul i j = true := by
  unfold okMul
  rw [two64, decide_eq_true h, Bool.true_or]
theorem mulI_ok {i j : Int} (h : okMul i j = true) : dMulI (.int i) (.int j) = some (.int (i * j)) := by
  show (if okMul i j then some (D.int (i * j)) else none) = _
  rw [h]; rfl
def drawOf (cell k : Int) : Int :=
  let first := (cell * 48271 + k * 69621 + 8191) % 2147483647
  let second := (first * first + first / 7 + k * 16807) % 2147483629
  let third := (second * second + second / 11 + 40692) % 2147483563
  third / 5 % 1000003
theorem mod_small (x m : Int) (h0 : 0 < m) (h : m < 4294967296) : (x % m).natAbs < 18446744073709551616 := by
  have := Int.emod_nonneg x (show m ≠ 0 by omega)
  have := Int.emod_lt_of_pos x h0
  omega
theorem mixed_tail (ns : List Int) (cell k : Int) : ∃ Γ', (sSq (sSet 3 (xV (mBin dMod (mCall dInt1 (mCons (mBin dAdd (mBin dAdd (mBin dMulI (mVarB 2) (mC (.int 48271))) (mBin dMulI (mVarB 1) (mC (.int 69621)))) (mC (.int 8191))) mNil)) (mC (.int 2147483647))))) (sSq (sSet 4 (xV (mBin dMod (mCall dInt1 (mCons (mBin dAdd (mBin dAdd (mBin dMulI (mVarB 3) (mVarB 3)) (mBin dDiv (mVarB 3) (mC (.int 7)))) (mBin dMulI (mVarB 1) (mC (.int 16807)))) mNil)) (mC (.int 2147483629))))) (sSq (sSet 5 (xV (mBin dMod (mCall dInt1 (mCons (mBin dAdd (mBin dAdd (mBin dMulI (mVarB 4) (mVarB 4)) (mBin dDiv (mVarB 4) (mC (.int 11)))) (mC (.int 40692))) mNil)) (mC (.int 2147483563))))) (sRt (mBin dMod (mBin dDiv (mVarB 5) (mC (.int 5))) (mC (.int 1000003))))))) [.val (.scr ns), .val (.int k), .val (.int cell), .emp, .emp, .emp] = some (.rt (.int (drawOf cell k)), Γ') := by
  generalize hf : (cell * 48271 + k * 69621 + 8191) % 2147483647 = first
  have f1 : first.natAbs < 18446744073709551616 := by rw [← hf]; exact mod_small _ _ (by decide) (by decide)
  generalize hs : (first * first + first / 7 + k * 16807) % 2147483629 = second
  have s1 : second.natAbs < 18446744073709551616 := by rw [← hs]; exact mod_small _ _ (by decide) (by decide)
  have e1 : dMulI (.int cell) (.int 48271) = some (.int (cell * 48271)) := mulI_ok (okMul_r (by decide))
  have e2 : dMulI (.int k) (.int 69621) = some (.int (k * 69621)) := mulI_ok (okMul_r (by decide))
  have e3 : dMulI (.int first) (.int first) = some (.int (first * first)) := mulI_ok (okMul_r f1)
  have e4 : dMulI (.int k) (.int 16807) = some (.int (k * 16807)) := mulI_ok (okMul_r (by decide))
  have e5 : dMulI (.int second) (.int second) = some (.int (second * second)) := mulI_ok (okMul_r s1)
  have w1 : (sSet 3 (xV (mBin dMod (mCall dInt1 (mCons (mBin dAdd (mBin dAdd (mBin dMulI (mVarB 2) (mC (.int 48271))) (mBin dMulI (mVarB 1) (mC (.int 69621)))) (mC (.int 8191))) mNil)) (mC (.int 2147483647))))) [.val (.scr ns), .val (.int k), .val (.int cell), .emp, .emp, .emp] = some (.nx, [.val (.scr ns), .val (.int k), .val (.int cell), .val (.int first), .emp, .emp]) := by
    rw [← hf]
    simp only [sSet, xV, mBin, mCall, mCons, mNil, mC, mVarB, List.getElem?_cons_succ, List.getElem?_cons_zero, Option.bind_some, e1, e2]
    rfl
  have w2 : (sSet 4 (xV (mBin dMod (mCall dInt1 (mCons (mBin dAdd (mBin dAdd (mBin dMulI (mVarB 3) (mVarB 3)) (mBin dDiv (mVarB 3) (mC (.int 7)))) (mBin dMulI (mVarB 1) (mC (.int 16807)))) mNil)) (mC (.int 2147483629))))) [.val (.scr ns), .val (.int k), .val (.int cell), .val (.int first), .emp, .emp] = some (.nx, [.val (.scr ns), .val (.int k), .val (.int cell), .val (.int first), .val (.int second), .emp]) := by
    rw [← hs]
    simp only [sSet, xV, mBin, mCall, mCons, mNil, mC, mVarB, List.getElem?_cons_succ, List.getElem?_cons_zero, Option.bind_some, e3, e4]
    rfl
  have w3 : (sSet 5 (xV (mBin dMod (mCall dInt1 (mCons (mBin dAdd (mBin dAdd (mBin dMulI (mVarB 4) (mVarB 4)) (mBin dDiv (mVarB 4) (mC (.int 11)))) (mC (.int 40692))) mNil)) (mC (.int 2147483563))))) [.val (.scr ns), .val (.int k), .val (.int cell), .val (.int first), .val (.int second), .emp] = some (.nx, [.val (.scr ns), .val (.int k), .val (.int cell), .val (.int first), .val (.int second), .val (.int ((second * second + second / 11 + 40692) % 2147483563))]) :=
    by
    simp only [sSet, xV, mBin, mCall, mCons, mNil, mC, mVarB, List.getElem?_cons_succ, List.getElem?_cons_zero, Option.bind_some, e5]
    rfl
  refine ⟨[.val (.scr ns), .val (.int k), .val (.int cell), .val (.int first), .val (.int second), .val (.int ((second * second + second / 11 + 40692) % 2147483563))], ?_⟩
  rw [sSq_nx w1, sSq_nx w2, sSq_nx w3]
  unfold drawOf
  simp only [hf, hs]
  rfl
def cellOf (ns : List Int) (k : Int) : Int := if ns = [] then 0 else (atI ns (k % ns.length)).getD 0
theorem atI_some {α : Type} {xs : List α} {i : Int} (h0 : 0 ≤ i) (h1 : i < xs.length) : atI xs i = some (xs[i.toNat]'(by omega)) := by
  unfold atI ixN
  rw [if_pos h0, if_pos h1]
  show xs[i.toNat]? = _
  exact List.getElem?_eq_getElem (by omega)
theorem E_mixed (ns : List Int) (k : Int) : m__law_mixed [.scr ns, .int k] = some (.int (drawOf (cellOf ns k) k)) := by
  have key : (sIf (mTB (mBin dGt (mCall dLen (mCons (mVarB 0) mNil)) (mC (.int 0)))) (sSet 2 (xV (mBin dIx (mVarB 0) (mBin dMod (mVarB 1) (mCall dLen (mCons (mVarB 0) mNil)))))) sNx) [.val (.scr ns), .val (.int k), .val (.int 0), .emp, .emp, .emp] = some (.nx, [Slot.val (.scr ns), .val (.int k), .val (.int (cellOf ns k)), .emp, .emp, .emp]) := by
    cases ns with
    | nil => rfl
    | cons n ns =>
      have hl : (0 : Int) < ((n :: ns).length : Int) := by rw [List.length_cons]; omega
      have ha : atI (n :: ns) (k % ((n :: ns).length : Int)) = some (cellOf (n :: ns) k) := by
        have h0 := Int.emod_nonneg k (show ((n :: ns).length : Int) ≠ 0 by omega)
        have h1 := Int.emod_lt_of_pos k hl
        unfold cellOf
        rw [if_neg (List.cons_ne_nil _ _), atI_some h0 h1]
        rfl
      rw [sIf_t (by
        show some (decide (0 < ((n :: ns).length : Int))) = _
        rw [decide_eq_true hl])]
      refine (sSet_v (d := .int (cellOf (n :: ns) k)) ((mBin_of (x := .scr (n :: ns)) rfl (y := .int (k % ((n :: ns).length : Int))) ?_).trans ?_)).trans ?_
      · show (if decide (0 < ((n :: ns).length : Int)) then some (D.int (k % ((n :: ns).length : Int))) else none) = _
        rw [decide_eq_true hl]; rfl
      · show (atI (n :: ns) (k % ((n :: ns).length : Int))).map D.int = _
        rw [ha]; rfl
      · rfl
  obtain ⟨Γ', t⟩ := mixed_tail ns (cellOf ns k) k
  refine run_rt (Γ1 := Γ') rfl ?_
  unfold b__law_mixed
  rw [sSq_nx (Γ1 := [.val (.scr ns), .val (.int k), .val (.int 0), .emp, .emp, .emp]) rfl, sSq_nx key]
  exact t
theorem drawOf_range (c k : Int) : 0 ≤ drawOf c k ∧ drawOf c k < 1000003 :=
  ⟨Int.emod_nonneg _ (by decide), Int.emod_lt_of_pos _ (by decide)⟩
/-- the drawn row: so many ints from 0 below 1000003 -/
theorem E_row (ns : List Int) (many : Nat) (hm : many ≤ 1000) : ∃ row : List Int, row.length = many ∧ (∀ x ∈ row, 0 ≤ x ∧ x < 1000003) ∧ m__law_row [.scr ns, .int many] = some (.lst (row.map .int)) := by
  -- big is 0 or the first cell
  have hb : ∃ big : Int, 0 ≤ big ∧ ((sIf (mtAnd (mTB (mBin dGt (mCall dLen (mCons (mVarB 0) mNil)) (mC (.int 0)))) (mTB (mBin dGe (mBin dIx (mVarB 0) (mC (.int 0))) (mBin dPow (mC (.int 10)) (mC (.int 18)))))) (sSet 2 (xV (mBin dIx (mVarB 0) (mC (.int 0))))) sNx) [.val (.scr ns), .val (.int many), .val (.int 0), .emp, .emp]) = some (.nx, [Slot.val (.scr ns), .val (.int many), .val (.int big), .emp, .emp]) := by
    cases ns with
    | nil => exact ⟨0, Int.le_refl _, rfl⟩
    | cons n ns =>
      have hl : (0 : Int) < ((n :: ns).length : Int) := by rw [List.length_cons]; omega
      have e1 : (mTB (mBin dGt (mCall dLen (mCons (mVarB 0) mNil)) (mC (.int 0)))) [.val (.scr (n :: ns)), .val (.int many), .val (.int 0), .emp, .emp] = some true := by
        show some (decide (0 < ((n :: ns).length : Int))) = _
        rw [decide_eq_true hl]
      have ha : atI (n :: ns) 0 = some n := atI_nat (j := 0) rfl
      have e2 : (mBin dIx (mVarB 0) (mC (.int 0))) [.val (.scr (n :: ns)), .val (.int many), .val (.int 0), .emp, .emp] = some (.int n) := by
        show (atI (n :: ns) 0).map D.int = _
        rw [ha]; rfl
      have e3 : (mTB (mBin dGe (mBin dIx (mVarB 0) (mC (.int 0))) (mBin dPow (mC (.int 10)) (mC (.int 18))))) [.val (.scr (n :: ns)), .val (.int many), .val (.int 0), .emp, .emp] = some (decide ((10 : Int) ^ (18 : Int).toNat ≤ n)) := by
        unfold mTB mBin at e2 ⊢
        rw [e2]; rfl
      by_cases c : (10 : Int) ^ (18 : Int).toNat ≤ n
      · refine ⟨n, Int.le_trans (by decide) c, ?_⟩
        simp only [sIf, mtAnd, e1, e3, Option.bind_some, decide_eq_true c, if_true, sSet, xV, e2]
        rfl
      · refine ⟨0, Int.le_refl _, ?_⟩
        simp only [sIf, mtAnd, e1, e3, Option.bind_some, decide_eq_false c, if_true, sNx]
        rfl
  obtain ⟨big, hb0, hbe⟩ := hb
  -- the loop
  have loop := for_inv (g := gN 4) (b := sIf (mTB (mBin dGt (mVarB 2) (mC (.int 0)))) (sSq (sApp 3 (mBin dMod (mCall dInt1 (mCons (mVarB 2) mNil)) (mC (.int 1000)))) (sSet 2 (xV (mBin dDiv (mVarB 2) (mC (.int 1000)))))) (sApp 3 (mCall m__law_mixed (mCons (mVar 0) (mCons (mVar 4) mNil)))))
    (fun xs Γ => ∃ (big : Int) (row : List Int) (s4 : Slot), 0 ≤ big ∧ row.length + xs.length = many ∧ (∀ x ∈ row, 0 ≤ x ∧ x < 1000003) ∧ (∀ x ∈ xs, ∃ i : Int, x = .int i) ∧ Γ = [.val (.scr ns), .val (.int many), .val (.int big), .own (.lst (row.map .int)), s4])
    (fun x xs Γ ⟨big, row, s4, h0, hl, hr, hx, e⟩ => by
      obtain ⟨i, rfl⟩ := hx x List.mem_cons_self
      rw [List.length_cons] at hl
      subst e
      have lim : (row.map D.int).length < LIM := by rw [List.length_map]; unfold LIM; omega
      have happ : ∀ (y : Int) (m : ME) (G : En), G = [.val (.scr ns), .val (.int many), .val (.int big), .own (.lst (row.map .int)), .val (.int i)] → m G = some (.int y) → sApp 3 m G = some (.nx, [.val (.scr ns), .val (.int many), .val (.int big), .own (.lst ((row ++ [y]).map .int)), .val (.int i)]) := by
        intro y m G hG hm
        subst hG
        show ((some (row.map D.int)).bind fun xs => (m _).bind fun d => if xs.length < LIM then some (Fl.nx, _) else none) = _
        rw [Option.bind_some, hm, Option.bind_some, if_pos lim, List.map_append]
        rfl
      by_cases c : 0 < big
      · refine ⟨[.val (.scr ns), .val (.int many), .val (.int (big / 1000)), .own (.lst ((row ++ [big % 1000]).map .int)), .val (.int i)], ?_, big / 1000, row ++ [big % 1000], .val (.int i), Int.ediv_nonneg h0 (by decide), by rw [List.length_append, List.length_singleton]; omega, fun x hx => ?_, fun x h => hx x (List.mem_cons_of_mem _ h), rfl⟩
        · show (some _).bind _ = _
          rw [Option.bind_some]
          have e1 : (mTB (mBin dGt (mVarB 2) (mC (.int 0)))) [.val (.scr ns), .val (.int many), .val (.int big), .own (.lst (row.map .int)), .val (.int i)] = some true := by
            show some (decide (0 < big)) = _
            rw [decide_eq_true c]
          show sIf _ _ _ [.val (.scr ns), .val (.int many), .val (.int big), .own (.lst (row.map .int)), .val (.int i)] = _
          unfold sIf
          rw [e1, Option.bind_some, if_pos rfl]
          unfold sSq
          rw [happ (big % 1000) _ _ rfl rfl]
          rfl
        · rcases List.mem_append.mp hx with h | h
          · exact hr x h
          · rw [List.mem_singleton.mp h]
            omega
      · refine ⟨[.val (.scr ns), .val (.int many), .val (.int big), .own (.lst ((row ++ [drawOf (cellOf ns i) i]).map .int)), .val (.int i)], ?_, big, row ++ [drawOf (cellOf ns i) i], .val (.int i), h0, by rw [List.length_append, List.length_singleton]; omega, fun x hx => ?_, fun x h => hx x (List.mem_cons_of_mem _ h), rfl⟩
        · show (some _).bind _ = _
          rw [Option.bind_some]
          have e1 : (mTB (mBin dGt (mVarB 2) (mC (.int 0)))) [.val (.scr ns), .val (.int many), .val (.int big), .own (.lst (row.map .int)), .val (.int i)] = some false := by
            show some (decide (0 < big)) = _
            rw [decide_eq_false c]
          show sIf _ _ _ [.val (.scr ns), .val (.int many), .val (.int big), .own (.lst (row.map .int)), .val (.int i)] = _
          unfold sIf
          rw [e1, Option.bind_some, if_neg Bool.false_ne_true]
          exact happ _ _ _ rfl (by
            show m__law_mixed [.scr ns, .int i] = _
            exact E_mixed ns i)
        · rcases List.mem_append.mp hx with h | h
          · exact hr x h
          · rw [List.mem_singleton.mp h]
            exact drawOf_range _ _)
    (rngD 0 many) [.val (.scr ns), .val (.int many), .val (.int big), .own (.lst []), .emp]
    ⟨big, [], .emp, hb0, by rw [rngD_len]; simp, fun _ h => absurd h List.not_mem_nil, fun x hx => by
      unfold rngD at hx
      obtain ⟨j, _, rfl⟩ := List.mem_map.mp hx
      exact ⟨_, rfl⟩, rfl⟩
  obtain ⟨Γ', e, big', row, s4, h0, hl, hr, _, rfl⟩ := loop
  refine ⟨row, by rw [List.length_nil] at hl; omega, hr, ?_⟩
  refine run_rt (Γ1 := [.val (.scr ns), .val (.int many), .val (.int big'), .val (.lst (row.map .int)), s4]) rfl ?_
  unfold b__law_row
  rw [sSq_nx (Γ1 := [.val (.scr ns), .val (.int many), .val (.int 0), .emp, .emp]) rfl, sSq_nx hbe, sSq_nx (Γ1 := [.val (.scr ns), .val (.int many), .val (.int big), .own (.lst []), .emp]) rfl, sSq_nx ((sFor_of ?_).trans e)]
  · rfl
  · show (if okR 0 (many : Int) then some (rngD 0 many) else none) = _
    rw [if_pos (by unfold okR; simp only [Bool.and_eq_true, decide_eq_true_eq]; omega)]
end SK

set_option Elab.async false
set_option linter.all false
set_option maxRecDepth 100000
set_option maxHeartbeats 4000000
set_option autoImplicit false
namespace SK
open PySem PySem.Spec PyProof.Rows L2

/-! ### _law_like of a value and itself -/
def D.okL : Nat → D → Bool
  | _, .non => true
  | _, .bl _ => true
  | _, .int _ => true
  | _, .str s => PyData.strOk s
  | n + 1, .tup xs => decide (xs.length ≤ 1000000) && xs.all (D.okL n)
  | _, _ => false
theorem rngD_eq (n : Nat) : rngD 0 n = (List.range n).map fun i : Nat => D.int i := by
  unfold rngD
  rw [Int.sub_zero, Int.toNat_natCast]
  congr 1
  funext i
  rw [Int.zero_add]
theorem okR_nat {n : Nat} (h : n ≤ 1000000) : okR 0 (n : Int) = true := by
  unfold okR
  simp only [Bool.and_eq_true, decide_eq_true_eq]
  omega
theorem like_tup {r : List D → Option D} {xs ys : List D} (hl : xs.length = ys.length) (hz : ys.length ≤ 1000000) (t : List Bool) (ht : t.length = ys.length) (h : ∀ (i : Nat) x y b, xs[i]? = some x → ys[i]? = some y → t[i]? = some b → r [x, y] = some (.bl b)) : runFn 2 3 (b__law_like r) [.tup xs, .tup ys] = some (.bl (t.all id)) := by
  refine run_rt (Γ1 := [.val (.tup xs), .val (.tup ys), .emp]) rfl ?_
  unfold b__law_like
  show sSq _ _ [.val (.tup xs), .val (.tup ys), .emp] = _
  rw [sSq_nx (Γ1 := [.val (.tup xs), .val (.tup ys), .emp]) rfl, sSq_nx (Γ1 := [.val (.tup xs), .val (.tup ys), .emp]) rfl]
  refine sSq_rt ?_
  rw [sIf_t rfl]
  rw [sSq_nx (Γ1 := [.val (.tup xs), .val (.tup ys), .emp]) (by
    rw [sIf_f]
    · rfl
    · show (some (!((xs.length : Int) == (ys.length : Int)))) = _
      rw [hl, beq_self_eq_true]; rfl)]
  refine sRt_of ((mCall_of (mCons_of (x := .lst (t.map .bl)) ?_ rfl)).trans ?_)
  · have e0 : mRng1 (mCall dLen (mCons (mVarB 1) mNil)) [.val (.tup xs), .val (.tup ys), .emp] = some ((List.range ys.length).map fun i : Nat => D.int i) := by
      show (if okR 0 (ys.length : Int) then some (rngD 0 ys.length) else none) = _
      rw [okR_nat hz, if_pos rfl, rngD_eq]
    refine (mLc_of e0 (lcL_map (fun i : Nat => D.int i) (fun i => D.bl (t.getD i false)) _ ?_) ?_).trans ?_
    rotate_left
    · rw [List.length_map, List.length_range]; unfold LIM; omega
    · congr 2
      apply List.ext_getElem?
      intro i
      rw [List.getElem?_map, List.getElem?_map]
      by_cases hi : i < ys.length
      · rw [List.getElem?_range hi, List.getElem?_eq_getElem (by omega)]
        show some (D.bl (t.getD i false)) = _
        rw [List.getD_eq_getElem?_getD, List.getElem?_eq_getElem (by omega)]; rfl
      · rw [List.getElem?_eq_none (by rw [List.length_range]; omega), List.getElem?_eq_none (by omega)]; rfl
    · intro i hi
      have hi := List.mem_range.mp hi
      refine ⟨[.val (.tup xs), .val (.tup ys), .val (.int i)], rfl, rfl, ?_⟩
      have hx : i < xs.length := by omega
      have e1 : (mBin dIx (mVarB 0) (mVarB 2)) [.val (.tup xs), .val (.tup ys), .val (.int i)] = some xs[i] := by
        show atI xs (i : Int) = _
        exact atI_nat (List.getElem?_eq_getElem hx)
      have e2 : (mBin dIx (mVarB 1) (mVarB 2)) [.val (.tup xs), .val (.tup ys), .val (.int i)] = some ys[i] := by
        show atI ys (i : Int) = _
        exact atI_nat (List.getElem?_eq_getElem hi)
      refine (mCall_of (mCons_of e1 (mCons_of e2 rfl))).trans ?_
      have hb : t[i]? = some (t.getD i false) := by
        rw [List.getD_eq_getElem?_getD, List.getElem?_eq_getElem (by omega)]; rfl
      exact h i _ _ _ (List.getElem?_eq_getElem hx) (List.getElem?_eq_getElem hi) hb
  · show (blsOf (t.map .bl)).map _ = _
    rw [blsOf_map]; rfl
theorem like_str {s : Str} (h : PyData.strOk s = true) (r : List D → Option D) : runFn 2 3 (b__law_like r) [.str s, .str s] = some (.bl true) := by
  refine run_rt (Γ1 := [.val (.str s), .val (.str s), .emp]) rfl ?_
  unfold b__law_like
  show sSq _ _ [.val (.str s), .val (.str s), .emp] = _
  rw [sSq_nx (Γ1 := [.val (.str s), .val (.str s), .emp]) rfl, sSq_nx (Γ1 := [.val (.str s), .val (.str s), .emp]) rfl, sSq_nx (Γ1 := [.val (.str s), .val (.str s), .emp]) rfl]
  refine sSq_rt ((sIf_t rfl).trans (sRt_of ?_))
  show (if (PyData.strOk s && PyData.strOk s) = true then some (D.bl (s == s)) else none) = _
  rw [h, beq_self_eq_true]; rfl
theorem like_refl : ∀ (n : Nat) (d : D), D.okL n d = true → m__law_like (n + 1) [d, d] = some (.bl true) := by
  intro n
  induction n with
  | zero =>
    intro d h
    cases d with
    | non => rfl
    | bl b => cases b <;> rfl
    | int i =>
      show some (D.bl (i == i)) = _
      rw [beq_self_eq_true]
    | str s =>
      have h : PyData.strOk s = true := h
      exact like_str h _
    | tup xs => cases h
    | lst xs => cases h
    | scr ns => cases h
  | succ n ih =>
    intro d h
    cases d with
    | non => rfl
    | bl b => cases b <;> rfl
    | int i =>
      show some (D.bl (i == i)) = _
      rw [beq_self_eq_true]
    | str s =>
      have h : PyData.strOk s = true := h
      exact like_str h _
    | tup xs =>
      obtain ⟨h1, h2⟩ := Bool.and_eq_true_iff.mp h
      have := like_tup (r := m__law_like (n + 1)) (xs := xs) (ys := xs) rfl (of_decide_eq_true h1) (List.replicate xs.length true) List.length_replicate (fun i x y b e1 e2 e3 => by
        rw [e1] at e2
        cases e2
        have : b = true := by
          rw [List.getElem?_replicate] at e3
          split at e3 <;> cases e3
          rfl
        subst this
        exact ih x (List.all_eq_true.mp h2 x (List.mem_of_getElem? e1)))
      rw [show (List.replicate xs.length true).all id = true from List.all_eq_true.mpr fun b hb => (List.mem_replicate.mp hb).2] at this
      exact this
    | lst xs => cases h
    | scr ns => cases h
/-- the call of the law's own comparison, of equal values -/
theorem like_eq {x y : D} (e : x = y) (h : D.okL 9 y = true) : m__law_like 10 [x, y] = some (.bl true) := by rw [e]; exact like_refl 9 y h
/-! slices -/
theorem cut_take (xs : List D) (c : Nat) : cutD xs none (some (c : Int)) = xs.take c := by
  unfold cutD
  rw [HT.sIx_none, HT.sIx_nat, List.drop_zero, Nat.sub_zero, ← List.take_eq_take_min]
theorem cut_drop (xs : List D) (c : Nat) : cutD xs (some (c : Int)) none = xs.drop c := by
  unfold cutD
  rw [HT.sIx_none, HT.sIx_nat]
  by_cases h : c ≤ xs.length
  · rw [Nat.min_eq_left h, List.take_of_length_le (by rw [List.length_drop]; omega)]
  · rw [Nat.min_eq_right (by omega), Nat.sub_self, List.take_zero, List.drop_eq_nil_of_le (by omega)]
theorem sl_take {m n : ME} {Γ : En} {xs : List D} {c : Nat} (h : m Γ = some (.tup xs)) (h2 : n Γ = some (.int c)) : mSl m mONone (mOSome n) Γ = some (.tup (xs.take c)) := by
  show (m Γ).bind (fun x => (some none).bind fun lo => ((n Γ).bind dInt).bind fun hi => dSl x lo hi) = _
  rw [h, h2]
  show some (D.tup (cutD xs none (some (c : Int)))) = _
  rw [cut_take]
theorem sl_drop {m n : ME} {Γ : En} {xs : List D} {c : Nat} (h : m Γ = some (.tup xs)) (h2 : n Γ = some (.int c)) : mSl m (mOSome n) mONone Γ = some (.tup (xs.drop c)) := by
  show (m Γ).bind (fun x => ((n Γ).bind dInt).bind fun lo => (some none).bind fun hi => dSl x lo hi) = _
  rw [h, h2]
  show some (D.tup (cutD xs (some (c : Int)) none)) = _
  rw [cut_drop]
theorem ix_nat {m n : ME} {Γ : En} {xs : List D} {i : Nat} {d : D} (h : m Γ = some (.tup xs)) (h2 : n Γ = some (.int i)) (h3 : xs[i]? = some d) : mBin dIx m n Γ = some d := (mBin_of h h2).trans (show atI xs (i : Int) = some d from atI_nat h3)
/-! the drawn row's cells -/
theorem row_at {m n : ME} {Γ : En} {row : List Int} {i : Nat} (h : m Γ = some (.lst (row.map .int))) (h2 : n Γ = some (.int i)) (h3 : i < row.length) : mBin dIx m n Γ = some (.int (row.getD i 0)) := (mBin_of h h2).trans (show atI (row.map D.int) (i : Int) = _ from atI_nat (by
  rw [List.getElem?_map, List.getD_eq_getElem?_getD, List.getElem?_eq_getElem h3]; rfl))
theorem row_int {m n : ME} {Γ : En} {row : List Int} {i : Nat} (h : m Γ = some (.lst (row.map .int))) (h2 : n Γ = some (.int i)) (h3 : i < row.length) : mCall dInt1 (mCons (mBin dIx m n) mNil) Γ = some (.int (row.getD i 0)) := ev1 (row_at h h2 h3) rfl
theorem mod_of {m n : ME} {Γ : En} {x y : Int} (h : m Γ = some (.int x)) (h2 : n Γ = some (.int y)) (h3 : 0 < y) : mBin dMod m n Γ = some (.int (x % y)) := (mBin_of h h2).trans (by
  show (if decide (0 < y) then some (D.int (x % y)) else none) = _
  rw [decide_eq_true h3]; rfl)
theorem not_like {x y : D} {m n : ME} {Γ : En} (hm : m Γ = some x) (hn : n Γ = some y) (e : x = y) (h : D.okL 9 y = true) : mtNot (mTru (mCall (m__law_like 10) (mCons m (mCons n mNil)))) Γ = some false := not_t (ev2 hm hn (like_eq e h))
theorem okL_tup {n : Nat} {xs : List D} (h : xs.length ≤ 1000000) (h2 : ∀ x ∈ xs, D.okL n x = true) : D.okL (n + 1) (.tup xs) = true := by
  show (decide _ && _) = true
  rw [decide_eq_true h, List.all_eq_true.mpr h2]; rfl
theorem okL_int (n : Nat) (i : Int) : D.okL n (.int i) = true := by cases n <;> rfl
theorem okL_ints {n : Nat} {xs : List Int} (h : xs.length ≤ 1000000) : D.okL (n + 1) (.tup (xs.map .int)) = true := okL_tup (by rw [List.length_map]; exact h) (fun x hx => by
  obtain ⟨i, _, rfl⟩ := List.mem_map.mp hx; exact okL_int n i)
end SK

set_option Elab.async false
set_option linter.all false
set_option maxRecDepth 100000
set_option maxHeartbeats 4000000
set_option autoImplicit false
namespace K67
open PySem PySem.Spec PyProof.Rows L2 SK
def topS (i : Nat) : Stmt := PySem.Challenge.pw_sealskept_k67_whole_trees_split.main.body.getD i (.Pass ⟨0, 0, 0, 0⟩)
/-! plain functions -/
theorem intsOf_inv : ∀ {l : List D} {xs : List Int}, intsOf l = some xs → l = xs.map D.int
  | [], xs, h => by cases h; rfl
  | d :: l, xs, h => by
    cases d with
    | int i =>
      obtain ⟨ys, e, rfl⟩ := Option.map_eq_some_iff.mp (show (intsOf l).map (i :: ·) = some xs from h)
      rw [intsOf_inv e]; rfl
    | _ => cases h
def mixI (s x : Int) : Int := Builtin.bitXor ((17 * s + 31 * (Builtin.bitXor s x) + 7) % 256) ((17 * s + 31 * (Builtin.bitXor s x) + 7) % 256 / 8)
@[irreducible] def mixR (xs : List Int) : Int := xs.foldl mixI 113
@[irreducible] def hI (x : Int) : Int := mixR [0, x]
@[irreducible] def TI (l r : Int) : Int := mixR [1, l / 16, l % 16, r / 16, r % 16]
def prs : List Int → List Int
  | a :: b :: r => TI a b :: prs r
  | r => r
def levF : Nat → List Int → List (List Int)
  | 0, r => [r]
  | n + 1, r => if r.length ≤ 1 then [r] else r :: levF n (prs r)
def cutN (n : Nat) : Nat := if n ≤ 2 then 1 else if n ≤ 4 then 2 else if n ≤ 8 then 4 else 8
def ltreeG (T : Int → Int → Int) : Nat → List Int → Int
  | 0, _ => 0
  | k + 1, xs => match xs with
    | [x] => x
    | _ => T (ltreeG T k (xs.take (cutN xs.length))) (ltreeG T k (xs.drop (cutN xs.length)))
def lpathG (T : Int → Int → Int) : Nat → List Int → Nat → List (Bool × Int)
  | 0, _, _ => []
  | k + 1, xs, i => match xs with
    | [_] => []
    | _ => if i < cutN xs.length then lpathG T k (xs.take (cutN xs.length)) i ++ [(false, ltreeG T 5 (xs.drop (cutN xs.length)))]
      else lpathG T k (xs.drop (cutN xs.length)) (i - cutN xs.length) ++ [(true, ltreeG T 5 (xs.take (cutN xs.length)))]
def ltree (k : Nat) (xs : List Int) : Int := ltreeG TI k xs
def lpath (k : Nat) (xs : List Int) (i : Nat) : List (Bool × Int) := lpathG TI k xs i
def encS (s : Bool × Int) : D := .tup [.str (if s.1 then "left" else "right"), .int s.2]
def decS : D → Option (Bool × Int)
  | .tup [.str s, .int m] => if s = "left" then some (true, m) else if s = "right" then some (false, m) else none
  | _ => none
def ok12 (n : Nat) : Bool := decide (1 ≤ n) && decide (n ≤ 12)
/-! what each def computes -/
def b_mixed_in : MS :=
  (sSq (sSet 2 (xV (mBin dMod (mBin dAdd (mBin dAdd (mBin dMulI (mC (.int 17)) (mVarB 0)) (mBin dMulI (mC (.int 31)) (mBin dXor (mVarB 0) (mVarB 1)))) (mC (.int 7))) (mC (.int 256))))) (sRt (mBin dXor (mVarB 2) (mBin dDiv (mVarB 2) (mC (.int 8))))))
def m_mixed_in : List D → Option D := runFn 2 3 b_mixed_in
def b_mixed_row : MS :=
  (sSq (sSet 1 (xV (mC (.int 113)))) (sSq (sFor (mItems (mVar 0)) (gN 2) (sSet 1 (xV (mCall m_mixed_in (mCons (mVar 1) (mCons (mVar 2) mNil)))))) (sRt (mVar 1))))
def m_mixed_row : List D → Option D := runFn 1 3 b_mixed_row
def n_mixed_row : List D → Option D
  | [.tup l] => (intsOf l).map fun xs => .int (mixR xs)
  | _ => none
theorem E_mixed_in (s x : Int) : m_mixed_in [.int s, .int x] = some (.int (mixI s x)) := rfl
theorem E_mixed_row (xs : List Int) : m_mixed_row [.tup (xs.map .int)] = some (.int (mixR xs)) := by
  obtain ⟨Γ', e, s2, rfl⟩ := for_fold (g := gN 2) (b := sSet 1 (xV (mCall m_mixed_in (mCons (mVar 1) (mCons (mVar 2) mNil))))) D.int mixI (fun a Γ => ∃ s2, Γ = [.val (.tup (xs.map .int)), .val (.int a), s2])
    (fun a x Γ ⟨s2, e⟩ => ⟨[.val (.tup (xs.map .int)), .val (.int (mixI a x)), .val (.int x)], by subst e; exact (sSet_v (Γ := [.val (.tup (xs.map .int)), .val (.int a), .val (.int x)]) (d := .int (mixI a x)) (E_mixed_in a x)), _, rfl⟩) xs 113 [.val (.tup (xs.map .int)), .val (.int 113), .emp] ⟨_, rfl⟩
  unfold mixR
  refine run_rt rfl ((sSq_nx (Γ1 := [.val (.tup (xs.map .int)), .val (.int 113), .emp]) rfl).trans ((sSq_nx ((sFor_of rfl).trans e)).trans rfl))
theorem le_mixed_row : LeF n_mixed_row m_mixed_row := by
  intro x r h
  unfold n_mixed_row at h
  split at h
  · obtain ⟨xs, e, rfl⟩ := Option.map_eq_some_iff.mp h
    rw [intsOf_inv e]; exact E_mixed_row xs
  · cases h
def b_mark_of_two : MS :=
  (sRt (mCall n_mixed_row (mCons (mTup (mCons (mC (.int 1)) (mCons (mBin dDiv (mVarB 0) (mC (.int 16))) (mCons (mBin dMod (mVarB 0) (mC (.int 16))) (mCons (mBin dDiv (mVarB 1) (mC (.int 16))) (mCons (mBin dMod (mVarB 1) (mC (.int 16))) mNil)))))) mNil)))
def m_mark_of_two : List D → Option D := runFn 2 2 b_mark_of_two
def n_mark_of_two : List D → Option D
  | [.int a, .int b] => some (.int (TI a b))
  | _ => none
theorem le_mark_of_two : LeF n_mark_of_two m_mark_of_two := by
  intro x r h
  unfold n_mark_of_two at h
  split at h
  · cases h; kernel_rfl
  · cases h
def b_tree_levels : MS :=
  (sSq (sSet 1 (xO (mLst (mCons (mLc (mItems (mVar 0)) (gN 4) mYes (mCall n_mixed_row (mCons (mTup (mCons (mC (.int 0)) (mCons (mVar 4) mNil))) mNil)) [4]) mNil)))) (sSq (mWh (mTB (mBin dGt (mCall dLen (mCons (mBin dIx (mVarB 1) (mUn dNeg (mC (.int 1)))) mNil)) (mC (.int 1)))) (sSq (sSet 2 (xV (mBin dIx (mVarB 1) (mUn dNeg (mC (.int 1)))))) (sSq (sSetF 3 (mLc (mRng3 (mC (.int 0)) (mBin dSub (mCall dLen (mCons (mVarB 2) mNil)) (mC (.int 1))) (mC (.int 2))) (gN 5) mYes (mCall n_mark_of_two (mCons (mBin dIx (mVarB 2) (mVarB 5)) (mCons (mBin dIx (mVarB 2) (mBin dAdd (mVarB 5) (mC (.int 1)))) mNil))) [5])) (sApp 1 (mBin dAdd (mVarB 3) (mIf (mTB (mBin dEq (mBin dMod (mCall dLen (mCons (mVarB 2) mNil)) (mC (.int 2))) (mC (.int 1)))) (mSl (mVarB 2) (mOSome (mUn dNeg (mC (.int 1)))) mONone) (mLst mNil)))))) 2000) (sFrz 1 (sRt (mVar 1)))))
def m_tree_levels : List D → Option D := runFn 1 6 b_tree_levels
def n_tree_levels : List D → Option D
  | [.tup l] => (intsOf l).bind fun xs => if ok12 xs.length then some (.lst ((levF 5 (xs.map hI)).map fun r => .lst (r.map .int))) else none
  | _ => none
theorem le_tree_levels : LeF n_tree_levels m_tree_levels := by
  intro x r h
  unfold n_tree_levels at h
  split at h
  · obtain ⟨xs, e, h2⟩ := Option.bind_eq_some_iff.mp h
    have := intsOf_inv e
    subst this
    obtain ⟨c, rfl⟩ := if_someP h2
    match xs, c with
    | [_], _ => kernel_rfl
    | [_, _], _ => kernel_rfl
    | [_, _, _], _ => kernel_rfl
    | [_, _, _, _], _ => kernel_rfl
    | [_, _, _, _, _], _ => kernel_rfl
    | [_, _, _, _, _, _], _ => kernel_rfl
    | [_, _, _, _, _, _, _], _ => kernel_rfl
    | [_, _, _, _, _, _, _, _], _ => kernel_rfl
    | [_, _, _, _, _, _, _, _, _], _ => kernel_rfl
    | [_, _, _, _, _, _, _, _, _, _], _ => kernel_rfl
    | [_, _, _, _, _, _, _, _, _, _, _], _ => kernel_rfl
    | [_, _, _, _, _, _, _, _, _, _, _, _], _ => kernel_rfl
  · cases h
def b_tree_mark : MS :=
  (sRt (mBin dIx (mBin dIx (mCall n_tree_levels (mCons (mVar 0) mNil)) (mUn dNeg (mC (.int 1)))) (mC (.int 0))))
def m_tree_mark : List D → Option D := runFn 1 1 b_tree_mark
def n_tree_mark : List D → Option D
  | [.tup l] => (intsOf l).bind fun xs => if ok12 xs.length then some (.int (ltree 5 (xs.map hI))) else none
  | _ => none
theorem le_tree_mark : LeF n_tree_mark m_tree_mark := by
  intro x r h
  unfold n_tree_mark at h
  split at h
  · obtain ⟨xs, e, h2⟩ := Option.bind_eq_some_iff.mp h
    have := intsOf_inv e
    subst this
    obtain ⟨c, rfl⟩ := if_someP h2
    match xs, c with
    | [_], _ => kernel_rfl
    | [_, _], _ => kernel_rfl
    | [_, _, _], _ => kernel_rfl
    | [_, _, _, _], _ => kernel_rfl
    | [_, _, _, _, _], _ => kernel_rfl
    | [_, _, _, _, _, _], _ => kernel_rfl
    | [_, _, _, _, _, _, _], _ => kernel_rfl
    | [_, _, _, _, _, _, _, _], _ => kernel_rfl
    | [_, _, _, _, _, _, _, _, _], _ => kernel_rfl
    | [_, _, _, _, _, _, _, _, _, _], _ => kernel_rfl
    | [_, _, _, _, _, _, _, _, _, _, _], _ => kernel_rfl
    | [_, _, _, _, _, _, _, _, _, _, _, _], _ => kernel_rfl
  · cases h
def b_tree_path : MS :=
  (sSq (sSet 2 (xO (mLst mNil))) (sSq (sFor (mItems (mSl (mCall n_tree_levels (mCons (mVar 0) mNil)) mONone (mOSome (mUn dNeg (mC (.int 1)))))) (gN 3) (sSq (sSet 4 (xV (mBin dXor (mVarB 1) (mC (.int 1))))) (sSq (sIf (mTB (mBin dLt (mVarB 4) (mCall dLen (mCons (mVarB 3) mNil)))) (sApp 2 (mTup (mCons (mIf (mTB (mBin dLt (mVarB 4) (mVarB 1))) (mC (.str "left")) (mC (.str "right"))) (mCons (mBin dIx (mVarB 3) (mVarB 4)) mNil)))) sNx) (sAug 1 dDiv (mC (.int 2)))))) (sRt (mCall dTuple (mCons (mVarB 2) mNil)))))
def m_tree_path : List D → Option D := runFn 2 5 b_tree_path
def okI (xs : List Int) (i : Int) : Bool := ok12 xs.length && (decide (0 ≤ i) && decide (i < xs.length))
def n_tree_path : List D → Option D
  | [.tup l, .int i] => (intsOf l).bind fun xs => if okI xs i then some (.tup ((lpath 5 (xs.map hI) i.toNat).map encS)) else none
  | _ => none
theorem okI_inv {xs : List Int} {i : Int} (h : okI xs i = true) : 1 ≤ xs.length ∧ xs.length ≤ 12 ∧ 0 ≤ i ∧ i < xs.length := by
  unfold okI ok12 at h
  simp only [Bool.and_eq_true, decide_eq_true_eq] at h
  omega
theorem le_tree_path : LeF n_tree_path m_tree_path := by
  intro x r h
  unfold n_tree_path at h
  split at h
  · rename_i l i
    obtain ⟨xs, e, h2⟩ := Option.bind_eq_some_iff.mp h
    have := intsOf_inv e
    subst this
    obtain ⟨c, rfl⟩ := if_someP h2
    obtain ⟨a, b, h0, h1⟩ := okI_inv c
    clear h2 h e c
    match xs, h0, h1 with
    | [_], h0, h1 =>
      rcases (show i = 0 by simp only [List.length_cons, List.length_nil] at h1; omega) with rfl <;> kernel_rfl
    | [_, _], h0, h1 =>
      rcases (show i = 0 ∨ i = 1 by simp only [List.length_cons, List.length_nil] at h1; omega) with rfl | rfl <;> kernel_rfl
    | [_, _, _], h0, h1 =>
      rcases (show i = 0 ∨ i = 1 ∨ i = 2 by simp only [List.length_cons, List.length_nil] at h1; omega) with rfl | rfl | rfl <;> kernel_rfl
    | [_, _, _, _], h0, h1 =>
      rcases (show i = 0 ∨ i = 1 ∨ i = 2 ∨ i = 3 by simp only [List.length_cons, List.length_nil] at h1; omega) with rfl | rfl | rfl | rfl <;> kernel_rfl
    | [_, _, _, _, _], h0, h1 =>
      rcases (show i = 0 ∨ i = 1 ∨ i = 2 ∨ i = 3 ∨ i = 4 by simp only [List.length_cons, List.length_nil] at h1; omega) with rfl | rfl | rfl | rfl | rfl <;> kernel_rfl
    | [_, _, _, _, _, _], h0, h1 =>
      rcases (show i = 0 ∨ i = 1 ∨ i = 2 ∨ i = 3 ∨ i = 4 ∨ i = 5 by simp only [List.length_cons, List.length_nil] at h1; omega) with rfl | rfl | rfl | rfl | rfl | rfl <;> kernel_rfl
    | [_, _, _, _, _, _, _], h0, h1 =>
      rcases (show i = 0 ∨ i = 1 ∨ i = 2 ∨ i = 3 ∨ i = 4 ∨ i = 5 ∨ i = 6 by simp only [List.length_cons, List.length_nil] at h1; omega) with rfl | rfl | rfl | rfl | rfl | rfl | rfl <;> kernel_rfl
    | [_, _, _, _, _, _, _, _], h0, h1 =>
      rcases (show i = 0 ∨ i = 1 ∨ i = 2 ∨ i = 3 ∨ i = 4 ∨ i = 5 ∨ i = 6 ∨ i = 7 by simp only [List.length_cons, List.length_nil] at h1; omega) with rfl | rfl | rfl | rfl | rfl | rfl | rfl | rfl <;> kernel_rfl
    | [_, _, _, _, _, _, _, _, _], h0, h1 =>
      rcases (show i = 0 ∨ i = 1 ∨ i = 2 ∨ i = 3 ∨ i = 4 ∨ i = 5 ∨ i = 6 ∨ i = 7 ∨ i = 8 by simp only [List.length_cons, List.length_nil] at h1; omega) with rfl | rfl | rfl | rfl | rfl | rfl | rfl | rfl | rfl <;> kernel_rfl
    | [_, _, _, _, _, _, _, _, _, _], h0, h1 =>
      rcases (show i = 0 ∨ i = 1 ∨ i = 2 ∨ i = 3 ∨ i = 4 ∨ i = 5 ∨ i = 6 ∨ i = 7 ∨ i = 8 ∨ i = 9 by simp only [List.length_cons, List.length_nil] at h1; omega) with rfl | rfl | rfl | rfl | rfl | rfl | rfl | rfl | rfl | rfl <;> kernel_rfl
    | [_, _, _, _, _, _, _, _, _, _, _], h0, h1 =>
      rcases (show i = 0 ∨ i = 1 ∨ i = 2 ∨ i = 3 ∨ i = 4 ∨ i = 5 ∨ i = 6 ∨ i = 7 ∨ i = 8 ∨ i = 9 ∨ i = 10 by simp only [List.length_cons, List.length_nil] at h1; omega) with rfl | rfl | rfl | rfl | rfl | rfl | rfl | rfl | rfl | rfl | rfl <;> kernel_rfl
    | [_, _, _, _, _, _, _, _, _, _, _, _], h0, h1 =>
      rcases (show i = 0 ∨ i = 1 ∨ i = 2 ∨ i = 3 ∨ i = 4 ∨ i = 5 ∨ i = 6 ∨ i = 7 ∨ i = 8 ∨ i = 9 ∨ i = 10 ∨ i = 11 by simp only [List.length_cons, List.length_nil] at h1; omega) with rfl | rfl | rfl | rfl | rfl | rfl | rfl | rfl | rfl | rfl | rfl | rfl <;> kernel_rfl
    | [], _, _ => simp at a
    | _ :: _ :: _ :: _ :: _ :: _ :: _ :: _ :: _ :: _ :: _ :: _ :: _ :: _, _, _ => simp at b
  · cases h
def b_is_mark : MS :=
  (sRt (mAnd (mUn (dIsi .int) (mVarB 0)) (mAnd (mNot (mUn (dIsi .bool) (mVarB 0))) (mChain dLe dLt (mC (.int 0)) (mVarB 0) (mC (.int 256))))))
def m_is_mark : List D → Option D := runFn 1 1 b_is_mark
def n_is_mark : List D → Option D
  | [.int m] => some (.bl (decide (0 ≤ m) && decide (m < 256)))
  | _ => none
theorem le_is_mark : LeF n_is_mark m_is_mark := by
  intro x r h
  unfold n_is_mark at h
  split at h
  · rename_i m
    cases h
    refine run_rt (Γ1 := [.val (.int m)]) rfl (sRt_of ?_)
    show (some (D.bl (decide (0 ≤ m)))).bind (fun z => (dB z).bind fun k => if k then some (D.bl (decide (m < 256))) else some (.bl false)) = _
    cases decide (0 ≤ m) <;> rfl
  · cases h
def b_judge_path : MS :=
  (sSq (sIf (mtNot (mTru (mUn (dIsi .tuple) (mVarB 2)))) (sRt (mC (.bl false))) sNx) (sSq (sSet 3 (xV (mCall n_mixed_row (mCons (mTup (mCons (mC (.int 0)) (mCons (mVar 1) mNil))) mNil)))) (sSq (sFor (mItems (mVar 2)) (gN 4) (sSq (sIf (mtOr (mtNot (mTru (mUn (dIsi .tuple) (mVarB 4)))) (mtOr (mTB (mBin dNe (mCall dLen (mCons (mVarB 4) mNil)) (mC (.int 2)))) (mtOr (mTB (mBin dNotIn (mBin dIx (mVarB 4) (mC (.int 0))) (mTup (mCons (mC (.str "left")) (mCons (mC (.str "right")) mNil))))) (mtNot (mTru (mCall n_is_mark (mCons (mBin dIx (mVarB 4) (mC (.int 1))) mNil))))))) (sRt (mC (.bl false))) sNx) (sSet 3 (xV (mIf (mTB (mBin dEq (mBin dIx (mVarB 4) (mC (.int 0))) (mC (.str "left")))) (mCall n_mark_of_two (mCons (mBin dIx (mVarB 4) (mC (.int 1))) (mCons (mVar 3) mNil))) (mCall n_mark_of_two (mCons (mVar 3) (mCons (mBin dIx (mVarB 4) (mC (.int 1))) mNil)))))))) (sRt (mBin dEq (mVarB 3) (mVarB 0))))))
def m_judge_path : List D → Option D := runFn 3 5 b_judge_path
def b_is_number : MS :=
  (sRt (mAnd (mUn (dIsi .int) (mVarB 0)) (mNot (mUn (dIsi .bool) (mVarB 0)))))
def m_is_number : List D → Option D := runFn 1 1 b_is_number
def b_part_marks : MS :=
  (sRt (mCall dTuple (mCons (mLc (mZipA (mVar 0) (mVar 1)) (gT (gsC (gT (gsC (gN 3) (gsC (gN 4) gsN))) (gsC (gN 2) gsN))) mYes (mCall n_mixed_row (mCons (mTup (mCons (mVar 3) (mCons (mVar 4) (mCons (mVar 2) mNil)))) mNil)) [2, 3, 4]) mNil)))
def m_part_marks : List D → Option D := runFn 2 5 b_part_marks
def encPr (p : Int × Int) : D := .tup [.int p.1, .int p.2]
def decPr : List D → Option (List (Int × Int))
  | [] => some []
  | .tup [.int a, .int b] :: l => (decPr l).map ((a, b) :: ·)
  | _ => none
theorem decPr_inv : ∀ {l : List D} {xs : List (Int × Int)}, decPr l = some xs → l = xs.map encPr
  | [], xs, h => by cases h; rfl
  | d :: l, xs, h => by
    unfold decPr at h
    split at h
    · rename_i e; cases e
    · rename_i a b l' e
      cases e
      obtain ⟨ys, e3, rfl⟩ := Option.map_eq_some_iff.mp h
      rw [decPr_inv e3]; rfl
    · cases h
theorem decPr_map : ∀ xs : List (Int × Int), decPr (xs.map encPr) = some xs
  | [] => rfl
  | x :: xs => by
    show (decPr (xs.map encPr)).map _ = _
    rw [decPr_map xs]; rfl
def marks (ps : List (Int × Int)) (ds : List Int) : List Int := List.zipWith (fun p d => mixR [p.1, p.2, d]) ps ds
def n_part_marks : List D → Option D
  | [.tup l, .tup l2] => (decPr l).bind fun ps => (intsOf l2).bind fun ds => if ok12 ps.length && decide (ds.length = ps.length) then some (.tup ((marks ps ds).map .int)) else none
  | _ => none
theorem le_part_marks : LeF n_part_marks m_part_marks := by
  intro x r h
  unfold n_part_marks at h
  split at h
  · obtain ⟨ps, e, h2⟩ := Option.bind_eq_some_iff.mp h
    obtain ⟨ds, e2, h3⟩ := Option.bind_eq_some_iff.mp h2
    have := decPr_inv e
    have := intsOf_inv e2
    subst_vars
    obtain ⟨c, rfl⟩ := if_someP h3
    clear h h2 h3 e e2
    match ps, ds, c with
    | [_], [_], _ => kernel_rfl
    | [_, _], [_, _], _ => kernel_rfl
    | [_, _, _], [_, _, _], _ => kernel_rfl
    | [_, _, _, _], [_, _, _, _], _ => kernel_rfl
    | [_, _, _, _, _], [_, _, _, _, _], _ => kernel_rfl
    | [_, _, _, _, _, _], [_, _, _, _, _, _], _ => kernel_rfl
    | [_, _, _, _, _, _, _], [_, _, _, _, _, _, _], _ => kernel_rfl
    | [_, _, _, _, _, _, _, _], [_, _, _, _, _, _, _, _], _ => kernel_rfl
    | [_, _, _, _, _, _, _, _, _], [_, _, _, _, _, _, _, _, _], _ => kernel_rfl
    | [_, _, _, _, _, _, _, _, _, _], [_, _, _, _, _, _, _, _, _, _], _ => kernel_rfl
    | [_, _, _, _, _, _, _, _, _, _, _], [_, _, _, _, _, _, _, _, _, _, _], _ => kernel_rfl
    | [_, _, _, _, _, _, _, _, _, _, _, _], [_, _, _, _, _, _, _, _, _, _, _, _], _ => kernel_rfl
  · cases h
def b_paper_mark : MS :=
  (sRt (mCall n_tree_mark (mCons (mCall n_part_marks (mCons (mVar 0) (mCons (mVar 1) mNil))) mNil)))
def m_paper_mark : List D → Option D := runFn 2 2 b_paper_mark
def b_shown_parts : MS :=
  (sSq (sSet 3 (xV (mCall n_part_marks (mCons (mVar 0) (mCons (mVar 1) mNil))))) (sRt (mCall dTuple (mCons (mLc (mItems (mVar 2)) (gN 4) mYes (mBin dAdd (mBin dAdd (mTup (mCons (mVar 4) mNil)) (mCall dTuple (mCons (mBin dIx (mVarB 0) (mVarB 4)) mNil))) (mTup (mCons (mBin dIx (mVarB 1) (mVarB 4)) (mCons (mCall n_tree_path (mCons (mVar 3) (mCons (mVar 4) mNil))) mNil)))) [4]) mNil))))
def m_shown_parts : List D → Option D := runFn 3 5 b_shown_parts
def b_is_shown_part : MS :=
  (sSq (sIf (mtOr (mtNot (mTru (mUn (dIsi .tuple) (mVarB 1)))) (mTB (mBin dNe (mCall dLen (mCons (mVarB 1) mNil)) (mC (.int 5))))) (sRt (mC (.bl false))) sNx) (sSq (sTg (gT (gsC (gN 2) (gsC (gN 3) (gsC (gN 4) (gsC (gN 5) (gsC (gN 6) gsN)))))) (mVar 1)) (sSq (sIf (mtOr (mtNot (mTru (mCall m_is_number (mCons (mVar 2) mNil)))) (mTB (mBin dLt (mVarB 2) (mC (.int 0))))) (sRt (mC (.bl false))) sNx) (sSq (sIf (mtNot (mTru (mCall dAll (mCons (mLc (mItems (mTup (mCons (mVar 3) (mCons (mVar 4) (mCons (mVar 5) mNil))))) (gN 7) mYes (mAnd (mCall m_is_number (mCons (mVar 7) mNil)) (mChain dLe dLe (mC (.int 0)) (mVarB 7) (mC (.int 15)))) [7]) mNil)))) (sRt (mC (.bl false))) sNx) (sRt (mCall m_judge_path (mCons (mVar 0) (mCons (mCall n_mixed_row (mCons (mTup (mCons (mVar 3) (mCons (mVar 4) (mCons (mVar 5) mNil)))) mNil)) (mCons (mVar 6) mNil)))))))))
def m_is_shown_part : List D → Option D := runFn 2 8 b_is_shown_part
def b_judge_parts : MS :=
  (sRt (mAnd (mUn (dIsi .tuple) (mVarB 1)) (mCall dAll (mCons (mLc (mItems (mVar 1)) (gN 2) mYes (mCall m_is_shown_part (mCons (mVar 0) (mCons (mVar 2) mNil))) [2]) mNil))))
def m_judge_parts : List D → Option D := runFn 2 3 b_judge_parts
def b__law_mixing : MS :=
  (sSq (sSet 1 (xV (mC (.int 113)))) (sSq (sFor (mItems (mVar 0)) (gN 2) (sSq (sSet 3 (xV (mBin dMod (mCall dInt1 (mCons (mBin dAdd (mBin dAdd (mBin dMulI (mC (.int 17)) (mVarB 1)) (mBin dMulI (mC (.int 31)) (mBin dXor (mVarB 1) (mVarB 2)))) (mC (.int 7))) mNil)) (mC (.int 256))))) (sSet 1 (xV (mBin dXor (mVarB 3) (mBin dDiv (mVarB 3) (mC (.int 8)))))))) (sRt (mVar 1))))
def m__law_mixing : List D → Option D := runFn 1 4 b__law_mixing
def n__law_mixing : List D → Option D := n_mixed_row
theorem E_mixing (xs : List Int) : m__law_mixing [.tup (xs.map .int)] = some (.int (mixR xs)) := by
  obtain ⟨Γ', e, s2, s3, rfl⟩ := for_fold (g := gN 2) (b := (sSq (sSet 3 (xV (mBin dMod (mCall dInt1 (mCons (mBin dAdd (mBin dAdd (mBin dMulI (mC (.int 17)) (mVarB 1)) (mBin dMulI (mC (.int 31)) (mBin dXor (mVarB 1) (mVarB 2)))) (mC (.int 7))) mNil)) (mC (.int 256))))) (sSet 1 (xV (mBin dXor (mVarB 3) (mBin dDiv (mVarB 3) (mC (.int 8)))))))) D.int mixI (fun a Γ => ∃ s2 s3, Γ = [.val (.tup (xs.map .int)), .val (.int a), s2, s3])
    (fun a x Γ ⟨s2, s3, e⟩ => ⟨[.val (.tup (xs.map .int)), .val (.int (mixI a x)), .val (.int x), .val (.int ((17 * a + 31 * (Builtin.bitXor a x) + 7) % 256))], by subst e; rfl, _, _, rfl⟩) xs 113 [.val (.tup (xs.map .int)), .val (.int 113), .emp, .emp] ⟨_, _, rfl⟩
  unfold mixR
  refine run_rt rfl ((sSq_nx (Γ1 := [.val (.tup (xs.map .int)), .val (.int 113), .emp, .emp]) rfl).trans ((sSq_nx ((sFor_of rfl).trans e)).trans rfl))
theorem le__law_mixing : LeF n__law_mixing m__law_mixing := by
  intro x r h
  unfold n__law_mixing n_mixed_row at h
  split at h
  · obtain ⟨xs, e, rfl⟩ := Option.map_eq_some_iff.mp h
    rw [intsOf_inv e]; exact E_mixing xs
  · cases h
def b__law_two : MS :=
  (sRt (mCall n__law_mixing (mCons (mTup (mCons (mC (.int 1)) (mCons (mBin dDiv (mVarB 0) (mC (.int 16))) (mCons (mBin dMod (mCall dInt1 (mCons (mVarB 0) mNil)) (mC (.int 16))) (mCons (mBin dDiv (mVarB 1) (mC (.int 16))) (mCons (mBin dMod (mCall dInt1 (mCons (mVarB 1) mNil)) (mC (.int 16))) mNil)))))) mNil)))
def m__law_two : List D → Option D := runFn 2 2 b__law_two
def n__law_two : List D → Option D := n_mark_of_two
theorem le__law_two : LeF n__law_two m__law_two := by
  intro x r h
  unfold n__law_two n_mark_of_two at h
  split at h
  · cases h; kernel_rfl
  · cases h
def b__law_cut : MS :=
  (sSq (sSet 1 (xV (mC (.int 1)))) (sSq (sFor (mRng1 (mC (.int 12))) (gN 2) (sIf (mTB (mBin dLt (mBin dMulI (mC (.int 2)) (mVarB 1)) (mVarB 0))) (sSet 1 (xV (mBin dMulI (mC (.int 2)) (mVarB 1)))) sNx)) (sRt (mVar 1))))
def m__law_cut : List D → Option D := runFn 1 3 b__law_cut
def b__law_tree (r : List D → Option D) : MS :=
  (sSq (sIf (mTB (mBin dEq (mCall dLen (mCons (mVarB 0) mNil)) (mC (.int 1)))) (sRt (mBin dIx (mVarB 0) (mC (.int 0)))) sNx) (sSq (sSet 1 (xV (mCall m__law_cut (mCons (mCall dLen (mCons (mVarB 0) mNil)) mNil)))) (sRt (mCall n__law_two (mCons (mCall r (mCons (mSl (mVarB 0) mONone (mOSome (mVarB 1))) mNil)) (mCons (mCall r (mCons (mSl (mVarB 0) (mOSome (mVarB 1)) mONone) mNil)) mNil))))))
def m__law_tree : Nat → List D → Option D
  | 0 => fun _ => none
  | n + 1 => runFn 1 2 (b__law_tree (m__law_tree n))
def n__law_tree : List D → Option D
  | [.tup l] => (intsOf l).bind fun xs => if ok12 xs.length then some (.int (ltree 5 xs)) else none
  | _ => none
theorem le__law_tree : LeF n__law_tree (m__law_tree 10) := by
  intro x r h
  unfold n__law_tree at h
  split at h
  · obtain ⟨xs, e, h2⟩ := Option.bind_eq_some_iff.mp h
    have := intsOf_inv e
    subst this
    obtain ⟨c, rfl⟩ := if_someP h2
    match xs, c with
    | [_], _ => kernel_rfl
    | [_, _], _ => kernel_rfl
    | [_, _, _], _ => kernel_rfl
    | [_, _, _, _], _ => kernel_rfl
    | [_, _, _, _, _], _ => kernel_rfl
    | [_, _, _, _, _, _], _ => kernel_rfl
    | [_, _, _, _, _, _, _], _ => kernel_rfl
    | [_, _, _, _, _, _, _, _], _ => kernel_rfl
    | [_, _, _, _, _, _, _, _, _], _ => kernel_rfl
    | [_, _, _, _, _, _, _, _, _, _], _ => kernel_rfl
    | [_, _, _, _, _, _, _, _, _, _, _], _ => kernel_rfl
    | [_, _, _, _, _, _, _, _, _, _, _, _], _ => kernel_rfl
  · cases h
def b__law_path (r : List D → Option D) : MS :=
  (sSq (sIf (mTB (mBin dEq (mCall dLen (mCons (mVarB 0) mNil)) (mC (.int 1)))) (sRt (mTup mNil)) sNx) (sSq (sSet 2 (xV (mCall m__law_cut (mCons (mCall dLen (mCons (mVarB 0) mNil)) mNil)))) (sSq (sIf (mTB (mBin dLt (mVarB 1) (mVarB 2))) (sRt (mBin dAdd (mCall r (mCons (mSl (mVarB 0) mONone (mOSome (mVarB 2))) (mCons (mVar 1) mNil))) (mTup (mCons (mTup (mCons (mC (.str "right")) (mCons (mCall n__law_tree (mCons (mSl (mVarB 0) (mOSome (mVarB 2)) mONone) mNil)) mNil))) mNil)))) sNx) (sRt (mBin dAdd (mCall r (mCons (mSl (mVarB 0) (mOSome (mVarB 2)) mONone) (mCons (mBin dSub (mVarB 1) (mVarB 2)) mNil))) (mTup (mCons (mTup (mCons (mC (.str "left")) (mCons (mCall n__law_tree (mCons (mSl (mVarB 0) mONone (mOSome (mVarB 2))) mNil)) mNil))) mNil)))))))
def m__law_path : Nat → List D → Option D
  | 0 => fun _ => none
  | n + 1 => runFn 2 3 (b__law_path (m__law_path n))
def n__law_path : List D → Option D
  | [.tup l, .int i] => (intsOf l).bind fun xs => if okI xs i then some (.tup ((lpath 5 xs i.toNat).map encS)) else none
  | _ => none
theorem le__law_path : LeF n__law_path (m__law_path 10) := by
  intro x r h
  unfold n__law_path at h
  split at h
  · rename_i l i
    obtain ⟨xs, e, h2⟩ := Option.bind_eq_some_iff.mp h
    have := intsOf_inv e
    subst this
    obtain ⟨c, rfl⟩ := if_someP h2
    obtain ⟨a, b, h0, h1⟩ := okI_inv c
    clear h2 h e c
    match xs, h0, h1 with
    | [_], h0, h1 =>
      rcases (show i = 0 by simp only [List.length_cons, List.length_nil] at h1; omega) with rfl <;> kernel_rfl
    | [_, _], h0, h1 =>
      rcases (show i = 0 ∨ i = 1 by simp only [List.length_cons, List.length_nil] at h1; omega) with rfl | rfl <;> kernel_rfl
    | [_, _, _], h0, h1 =>
      rcases (show i = 0 ∨ i = 1 ∨ i = 2 by simp only [List.length_cons, List.length_nil] at h1; omega) with rfl | rfl | rfl <;> kernel_rfl
    | [_, _, _, _], h0, h1 =>
      rcases (show i = 0 ∨ i = 1 ∨ i = 2 ∨ i = 3 by simp only [List.length_cons, List.length_nil] at h1; omega) with rfl | rfl | rfl | rfl <;> kernel_rfl
    | [_, _, _, _, _], h0, h1 =>
      rcases (show i = 0 ∨ i = 1 ∨ i = 2 ∨ i = 3 ∨ i = 4 by simp only [List.length_cons, List.length_nil] at h1; omega) with rfl | rfl | rfl | rfl | rfl <;> kernel_rfl
    | [_, _, _, _, _, _], h0, h1 =>
      rcases (show i = 0 ∨ i = 1 ∨ i = 2 ∨ i = 3 ∨ i = 4 ∨ i = 5 by simp only [List.length_cons, List.length_nil] at h1; omega) with rfl | rfl | rfl | rfl | rfl | rfl <;> kernel_rfl
    | [_, _, _, _, _, _, _], h0, h1 =>
      rcases (show i = 0 ∨ i = 1 ∨ i = 2 ∨ i = 3 ∨ i = 4 ∨ i = 5 ∨ i = 6 by simp only [List.length_cons, List.length_nil] at h1; omega) with rfl | rfl | rfl | rfl | rfl | rfl | rfl <;> kernel_rfl
    | [_, _, _, _, _, _, _, _], h0, h1 =>
      rcases (show i = 0 ∨ i = 1 ∨ i = 2 ∨ i = 3 ∨ i = 4 ∨ i = 5 ∨ i = 6 ∨ i = 7 by simp only [List.length_cons, List.length_nil] at h1; omega) with rfl | rfl | rfl | rfl | rfl | rfl | rfl | rfl <;> kernel_rfl
    | [_, _, _, _, _, _, _, _, _], h0, h1 =>
      rcases (show i = 0 ∨ i = 1 ∨ i = 2 ∨ i = 3 ∨ i = 4 ∨ i = 5 ∨ i = 6 ∨ i = 7 ∨ i = 8 by simp only [List.length_cons, List.length_nil] at h1; omega) with rfl | rfl | rfl | rfl | rfl | rfl | rfl | rfl | rfl <;> kernel_rfl
    | [_, _, _, _, _, _, _, _, _, _], h0, h1 =>
      rcases (show i = 0 ∨ i = 1 ∨ i = 2 ∨ i = 3 ∨ i = 4 ∨ i = 5 ∨ i = 6 ∨ i = 7 ∨ i = 8 ∨ i = 9 by simp only [List.length_cons, List.length_nil] at h1; omega) with rfl | rfl | rfl | rfl | rfl | rfl | rfl | rfl | rfl | rfl <;> kernel_rfl
    | [_, _, _, _, _, _, _, _, _, _, _], h0, h1 =>
      rcases (show i = 0 ∨ i = 1 ∨ i = 2 ∨ i = 3 ∨ i = 4 ∨ i = 5 ∨ i = 6 ∨ i = 7 ∨ i = 8 ∨ i = 9 ∨ i = 10 by simp only [List.length_cons, List.length_nil] at h1; omega) with rfl | rfl | rfl | rfl | rfl | rfl | rfl | rfl | rfl | rfl | rfl <;> kernel_rfl
    | [_, _, _, _, _, _, _, _, _, _, _, _], h0, h1 =>
      rcases (show i = 0 ∨ i = 1 ∨ i = 2 ∨ i = 3 ∨ i = 4 ∨ i = 5 ∨ i = 6 ∨ i = 7 ∨ i = 8 ∨ i = 9 ∨ i = 10 ∨ i = 11 by simp only [List.length_cons, List.length_nil] at h1; omega) with rfl | rfl | rfl | rfl | rfl | rfl | rfl | rfl | rfl | rfl | rfl | rfl <;> kernel_rfl
    | [], _, _ => simp at a
    | _ :: _ :: _ :: _ :: _ :: _ :: _ :: _ :: _ :: _ :: _ :: _ :: _ :: _, _, _ => simp at b
  · cases h
def b__law_singles : MS :=
  (sRt (mCall dTuple (mCons (mLc (mItems (mVar 0)) (gN 1) mYes (mCall n__law_mixing (mCons (mTup (mCons (mC (.int 0)) (mCons (mVar 1) mNil))) mNil)) [1]) mNil)))
def m__law_singles : List D → Option D := runFn 1 2 b__law_singles
def b__law_tree_right : MS :=
  (sSq (sSet 1 (xV (mCall m__law_singles (mCons (mVar 0) mNil)))) (sSq (sSet 2 (xV (mCall n__law_tree (mCons (mVar 1) mNil)))) (sSq (sIf (mtNot (mTru (mCall (m__law_like 10) (mCons (mCall n_tree_mark (mCons (mVar 0) mNil)) (mCons (mVar 2) mNil))))) (sRt (mC (.bl false))) sNx) (sSq (sIf (mTB (mBin dGt (mCall dLen (mCons (mVarB 0) mNil)) (mC (.int 1)))) (sSq (sSet 3 (xV (mCall m__law_cut (mCons (mCall dLen (mCons (mVarB 0) mNil)) mNil)))) (sSq (sPar 4 5 (xV (mCall n_tree_mark (mCons (mSl (mVarB 0) mONone (mOSome (mVarB 3))) mNil))) (xV (mCall n_tree_mark (mCons (mSl (mVarB 0) (mOSome (mVarB 3)) mONone) mNil)))) (sSq (sIf (mtNot (mTru (mCall (m__law_like 10) (mCons (mTup (mCons (mVar 4) (mCons (mVar 5) mNil))) (mCons (mTup (mCons (mCall n__law_tree (mCons (mSl (mVarB 1) mONone (mOSome (mVarB 3))) mNil)) (mCons (mCall n__law_tree (mCons (mSl (mVarB 1) (mOSome (mVarB 3)) mONone) mNil)) mNil))) mNil))))) (sRt (mC (.bl false))) sNx) (sIf (mtNot (mTru (mCall (m__law_like 10) (mCons (mCall n_mixed_row (mCons (mTup (mCons (mC (.int 1)) (mCons (mBin dDiv (mVarB 4) (mC (.int 16))) (mCons (mBin dMod (mCall dInt1 (mCons (mVarB 4) mNil)) (mC (.int 16))) (mCons (mBin dDiv (mVarB 5) (mC (.int 16))) (mCons (mBin dMod (mCall dInt1 (mCons (mVarB 5) mNil)) (mC (.int 16))) mNil)))))) mNil)) (mCons (mVar 2) mNil))))) (sRt (mC (.bl false))) sNx)))) sNx) (sSq (sFor (mRng1 (mCall dLen (mCons (mVarB 0) mNil))) (gN 6) (sSq (sSet 7 (xV (mCall n_tree_path (mCons (mVar 0) (mCons (mVar 6) mNil))))) (sSq (sIf (mtOr (mtNot (mTru (mCall (m__law_like 10) (mCons (mVar 7) (mCons (mCall n__law_path (mCons (mVar 1) (mCons (mVar 6) mNil))) mNil))))) (mTB (mBin dIsNot (mCall m_judge_path (mCons (mVar 2) (mCons (mBin dIx (mVarB 0) (mVarB 6)) (mCons (mVar 7) mNil)))) (mC (.bl true))))) (sRt (mC (.bl false))) sNx) (sIf (mTB (mBin dIsNot (mCall m_judge_path (mCons (mBin dMod (mCall dInt1 (mCons (mBin dAdd (mBin dAdd (mVarB 2) (mC (.int 1))) (mVarB 6)) mNil)) (mC (.int 256))) (mCons (mBin dIx (mVarB 0) (mVarB 6)) (mCons (mVar 7) mNil)))) (mC (.bl false)))) (sRt (mC (.bl false))) sNx)))) (sRt (mC (.bl true))))))))
def m__law_tree_right : List D → Option D := runFn 1 8 b__law_tree_right
def b__law_edit_right : MS :=
  (sSq (sSet 3 (xV (mBin dAdd (mBin dAdd (mSl (mVarB 0) mONone (mOSome (mVarB 1))) (mTup (mCons (mVar 2) mNil))) (mSl (mVarB 0) (mOSome (mBin dAdd (mVarB 1) (mC (.int 1)))) mONone)))) (sSq (sPar 4 5 (xV (mCall n_tree_mark (mCons (mVar 3) mNil))) (xV (mCall n_tree_path (mCons (mVar 0) (mCons (mVar 1) mNil))))) (sSq (sIf (mtOr (mtNot (mTru (mCall (m__law_like 10) (mCons (mVar 4) (mCons (mCall n__law_tree (mCons (mCall m__law_singles (mCons (mVar 3) mNil)) mNil)) mNil))))) (mtNot (mTru (mCall (m__law_like 10) (mCons (mCall n_tree_path (mCons (mVar 3) (mCons (mVar 1) mNil))) (mCons (mVar 5) mNil)))))) (sRt (mC (.bl false))) sNx) (sSq (sIf (mTB (mBin dIsNot (mCall m_judge_path (mCons (mVar 4) (mCons (mVar 2) (mCons (mVar 5) mNil)))) (mC (.bl true)))) (sRt (mC (.bl false))) sNx) (sSq (sFor (mRng1 (mCall dLen (mCons (mVarB 0) mNil))) (gN 6) (sSq (sTg (gT (gsC (gN 7) (gsC (gN 8) gsN))) (mTup (mCons (mCall n_tree_path (mCons (mVar 0) (mCons (mVar 6) mNil))) (mCons (mCall n_tree_path (mCons (mVar 3) (mCons (mVar 6) mNil))) mNil)))) (sSq (sIf (mtOr (mtNot (mTru (mCall (m__law_like 10) (mCons (mVar 8) (mCons (mCall n__law_path (mCons (mCall m__law_singles (mCons (mVar 3) mNil)) (mCons (mVar 6) mNil))) mNil))))) (mTB (mBin dNe (mCall dLen (mCons (mVarB 7) mNil)) (mCall dLen (mCons (mVarB 8) mNil))))) (sRt (mC (.bl false))) sNx) (sSq (sSetF 9 (mLc (mRng1 (mCall dLen (mCons (mVarB 7) mNil))) (gN 10) (mTB (mBin dNe (mBin dIx (mVarB 7) (mVarB 10)) (mBin dIx (mVarB 8) (mVarB 10)))) (mVar 10) [10])) (sSq (sIf (mtOr (mTB (mBin dGt (mCall dLen (mCons (mVarB 9) mNil)) (mC (.int 1)))) (mTru (mCall dAny (mCons (mLc (mItems (mVar 9)) (gN 10) mYes (mBin dNe (mBin dIx (mBin dIx (mVarB 7) (mVarB 10)) (mC (.int 0))) (mBin dIx (mBin dIx (mVarB 8) (mVarB 10)) (mC (.int 0)))) [10]) mNil)))) (sRt (mC (.bl false))) sNx) (sIf (mtAnd (mTB (mBin dNe (mVarB 6) (mVarB 1))) (mTB (mBin dIsNot (mCall m_judge_path (mCons (mVar 4) (mCons (mBin dIx (mVarB 0) (mVarB 6)) (mCons (mVar 8) mNil)))) (mC (.bl true))))) (sRt (mC (.bl false))) sNx)))))) (sRt (mC (.bl true))))))))
def m__law_edit_right : List D → Option D := runFn 3 11 b__law_edit_right
def b__law_paper_marks : MS :=
  (sRt (mCall dTuple (mCons (mLc (mRng1 (mCall dLen (mCons (mVarB 0) mNil))) (gN 2) mYes (mCall n__law_mixing (mCons (mTup (mCons (mBin dIx (mBin dIx (mVarB 0) (mVarB 2)) (mC (.int 0))) (mCons (mBin dIx (mBin dIx (mVarB 0) (mVarB 2)) (mC (.int 1))) (mCons (mBin dIx (mVarB 1) (mVarB 2)) mNil)))) mNil)) [2]) mNil)))
def m__law_paper_marks : List D → Option D := runFn 2 3 b__law_paper_marks
def b__law_parts : MS :=
  (sSq (sPar 4 5 (xV (mLc (mItems (mVar 3)) (gN 10) (mTB (mBin dLt (mVarB 10) (mVarB 2))) (mVar 10) [10])) (xV (mLc (mItems (mVar 3)) (gN 10) (mTB (mBin dGe (mVarB 10) (mVarB 2))) (mBin dSub (mVarB 10) (mVarB 2)) [10]))) (sSq (sPar3 6 7 8 (xV (mCall m_paper_mark (mCons (mSl (mVarB 0) mONone (mOSome (mVarB 2))) (mCons (mSl (mVarB 1) mONone (mOSome (mVarB 2))) mNil)))) (xV (mCall m_paper_mark (mCons (mSl (mVarB 0) (mOSome (mVarB 2)) mONone) (mCons (mSl (mVarB 1) (mOSome (mVarB 2)) mONone) mNil)))) (xO (mLst mNil))) (sSq (sIf (mTB (mBin dGt (mCall dLen (mCons (mVarB 4) mNil)) (mC (.int 0)))) (sFor (mItems (mCall m_shown_parts (mCons (mSl (mVarB 0) mONone (mOSome (mVarB 2))) (mCons (mSl (mVarB 1) mONone (mOSome (mVarB 2))) (mCons (mCall dTuple (mCons (mVarB 4) mNil)) mNil))))) (gN 9) (sApp 8 (mBin dAdd (mSl (mVarB 9) mONone (mOSome (mC (.int 4)))) (mTup (mCons (mBin dAdd (mBin dIx (mVarB 9) (mC (.int 4))) (mTup (mCons (mTup (mCons (mC (.str "right")) (mCons (mVar 7) mNil))) mNil))) mNil))))) sNx) (sSq (sIf (mTB (mBin dGt (mCall dLen (mCons (mVarB 5) mNil)) (mC (.int 0)))) (sFor (mItems (mCall m_shown_parts (mCons (mSl (mVarB 0) (mOSome (mVarB 2)) mONone) (mCons (mSl (mVarB 1) (mOSome (mVarB 2)) mONone) (mCons (mCall dTuple (mCons (mVarB 5) mNil)) mNil))))) (gN 9) (sApp 8 (mBin dAdd (mBin dAdd (mTup (mCons (mBin dAdd (mBin dIx (mVarB 9) (mC (.int 0))) (mVarB 2)) mNil)) (mSl (mVarB 9) (mOSome (mC (.int 1))) (mOSome (mC (.int 4))))) (mTup (mCons (mBin dAdd (mBin dIx (mVarB 9) (mC (.int 4))) (mTup (mCons (mTup (mCons (mC (.str "left")) (mCons (mVar 6) mNil))) mNil))) mNil))))) sNx) (sRt (mCall dTuple (mCons (mVarB 8) mNil)))))))
def m__law_parts : List D → Option D := runFn 4 11 b__law_parts
def b__law_paper_right : MS :=
  (sSq (sSet 5 (xV (mCall m__law_cut (mCons (mCall dLen (mCons (mVarB 0) mNil)) mNil)))) (sSq (sPar 6 7 (xV (mCall m_paper_mark (mCons (mVar 0) (mCons (mVar 1) mNil)))) (xV (mCall m_shown_parts (mCons (mVar 0) (mCons (mVar 1) (mCons (mVar 2) mNil)))))) (sSq (sPar 8 9 (xV (mCall m_paper_mark (mCons (mSl (mVarB 0) mONone (mOSome (mVarB 5))) (mCons (mSl (mVarB 1) mONone (mOSome (mVarB 5))) mNil)))) (xV (mCall m_paper_mark (mCons (mSl (mVarB 0) (mOSome (mVarB 5)) mONone) (mCons (mSl (mVarB 1) (mOSome (mVarB 5)) mONone) mNil))))) (sSq (sSet 10 (xV (mCall m__law_paper_marks (mCons (mVar 0) (mCons (mVar 1) mNil))))) (sSq (sSet 11 (xV (mCall m__law_singles (mCons (mVar 10) mNil)))) (sSq (sIf (mtNot (mTru (mCall (m__law_like 10) (mCons (mTup (mCons (mVar 8) (mCons (mVar 9) mNil))) (mCons (mTup (mCons (mCall n__law_tree (mCons (mSl (mVarB 11) mONone (mOSome (mVarB 5))) mNil)) (mCons (mCall n__law_tree (mCons (mSl (mVarB 11) (mOSome (mVarB 5)) mONone) mNil)) mNil))) mNil))))) (sRt (mC (.bl false))) sNx) (sSq (sSet 12 (xV (mCall dTuple (mCons (mLc (mItems (mVar 2)) (gN 16) mYes (mBin dAdd (mBin dAdd (mTup (mCons (mVar 16) mNil)) (mBin dIx (mVarB 0) (mVarB 16))) (mTup (mCons (mBin dIx (mVarB 1) (mVarB 16)) (mCons (mCall n__law_path (mCons (mVar 11) (mCons (mVar 16) mNil))) mNil)))) [16]) mNil)))) (sSq (sIf (mtOr (mtNot (mTru (mCall (m__law_like 10) (mCons (mVar 6) (mCons (mCall n__law_two (mCons (mVar 8) (mCons (mVar 9) mNil))) mNil))))) (mtNot (mTru (mCall (m__law_like 10) (mCons (mVar 7) (mCons (mVar 12) mNil)))))) (sRt (mC (.bl false))) sNx) (sSq (sIf (mtOr (mtNot (mTru (mCall (m__law_like 10) (mCons (mCall m__law_parts (mCons (mVar 0) (mCons (mVar 1) (mCons (mVar 5) (mCons (mVar 2) mNil))))) (mCons (mVar 12) mNil))))) (mTB (mBin dIsNot (mCall m_judge_parts (mCons (mVar 6) (mCons (mVar 12) mNil))) (mC (.bl true))))) (sRt (mC (.bl false))) sNx) (sSq (sIf (mTB (mBin dIsNot (mCall m_judge_parts (mCons (mBin dMod (mCall dInt1 (mCons (mBin dAdd (mVarB 6) (mC (.int 1))) mNil)) (mC (.int 256))) (mCons (mVar 12) mNil))) (mC (.bl false)))) (sRt (mC (.bl false))) sNx) (sSq (sSet 13 (xV (mBin dAdd (mBin dAdd (mSl (mVarB 0) mONone (mOSome (mVarB 3))) (mTup (mCons (mTup (mCons (mBin dIx (mBin dIx (mVarB 0) (mVarB 3)) (mC (.int 0))) (mCons (mVar 4) mNil))) mNil))) (mSl (mVarB 0) (mOSome (mBin dAdd (mVarB 3) (mC (.int 1)))) mONone)))) (sSq (sPar 14 15 (xV (mBin dIx (mCall m_shown_parts (mCons (mVar 0) (mCons (mVar 1) (mCons (mTup (mCons (mVar 3) mNil)) mNil)))) (mC (.int 0)))) (xV (mCall m_paper_mark (mCons (mVar 13) (mCons (mVar 1) mNil))))) (sSq (sIf (mtNot (mTru (mCall (m__law_like 10) (mCons (mVar 15) (mCons (mCall n__law_tree (mCons (mCall m__law_singles (mCons (mCall m__law_paper_marks (mCons (mVar 13) (mCons (mVar 1) mNil))) mNil)) mNil)) mNil))))) (sRt (mC (.bl false))) sNx) (sRt (mBin dIs (mCall m_judge_parts (mCons (mVar 15) (mCons (mTup (mCons (mBin dAdd (mBin dAdd (mSl (mVarB 14) mONone (mOSome (mC (.int 2)))) (mTup (mCons (mVar 4) mNil))) (mSl (mVarB 14) (mOSome (mC (.int 3))) mONone)) mNil)) mNil))) (mC (.bl true)))))))))))))))))
def m__law_paper_right : List D → Option D := runFn 5 17 b__law_paper_right
def b_law : MS :=
  (sSq (sSet 1 (xV (mCall m__law_row (mCons (mVar 0) (mCons (mC (.int 60)) mNil))))) (sSq (sPar 2 3 (xV (mBin dAdd (mC (.int 1)) (mBin dMod (mCall dInt1 (mCons (mBin dIx (mVarB 1) (mC (.int 0))) mNil)) (mC (.int 12))))) (xV (mBin dAdd (mC (.int 2)) (mBin dMod (mCall dInt1 (mCons (mBin dIx (mVarB 1) (mC (.int 15))) mNil)) (mC (.int 8)))))) (sSq (sSet 4 (xV (mCall dTuple (mCons (mLc (mRng1 (mVarB 2)) (gN 10) mYes (mBin dMod (mCall dInt1 (mCons (mBin dIx (mVarB 1) (mBin dAdd (mC (.int 1)) (mVarB 10))) mNil)) (mC (.int 256))) [10]) mNil)))) (sSq (sSet 5 (xV (mBin dMod (mCall dInt1 (mCons (mBin dIx (mVarB 1) (mC (.int 13))) mNil)) (mVarB 2)))) (sSq (sIf (mtNot (mTru (mCall m__law_tree_right (mCons (mVar 4) mNil)))) (sRt (mC (.bl false))) sNx) (sSq (sIf (mtNot (mTru (mCall m__law_edit_right (mCons (mVar 4) (mCons (mVar 5) (mCons (mBin dMod (mCall dInt1 (mCons (mBin dAdd (mBin dAdd (mBin dIx (mVarB 4) (mVarB 5)) (mC (.int 1))) (mBin dMod (mCall dInt1 (mCons (mBin dIx (mVarB 1) (mC (.int 14))) mNil)) (mC (.int 255)))) mNil)) (mC (.int 256))) mNil)))))) (sRt (mC (.bl false))) sNx) (sSq (sSet 6 (xV (mCall dTuple (mCons (mLc (mRng1 (mVarB 3)) (gN 10) mYes (mTup (mCons (mBin dMod (mCall dInt1 (mCons (mBin dIx (mVarB 1) (mBin dAdd (mC (.int 16)) (mBin dMulI (mC (.int 3)) (mVarB 10)))) mNil)) (mC (.int 16))) (mCons (mBin dMod (mCall dInt1 (mCons (mBin dIx (mVarB 1) (mBin dAdd (mC (.int 17)) (mBin dMulI (mC (.int 3)) (mVarB 10)))) mNil)) (mC (.int 16))) mNil))) [10]) mNil)))) (sSq (sSet 7 (xV (mCall dTuple (mCons (mLc (mRng1 (mVarB 3)) (gN 10) mYes (mBin dMod (mCall dInt1 (mCons (mBin dIx (mVarB 1) (mBin dAdd (mC (.int 18)) (mBin dMulI (mC (.int 3)) (mVarB 10)))) mNil)) (mC (.int 16))) [10]) mNil)))) (sSq (sSet 8 (xV (mCall dTuple (mCons (mLc (mRng1 (mVarB 3)) (gN 10) (mTB (mBin dEq (mBin dMod (mCall dInt1 (mCons (mBin dIx (mVarB 1) (mBin dAdd (mC (.int 43)) (mVarB 10))) mNil)) (mC (.int 2))) (mC (.int 0)))) (mVar 10) [10]) mNil)))) (sSq (sIf (mTB (mBin dEq (mCall dLen (mCons (mVarB 8) mNil)) (mC (.int 0)))) (sSet 8 (xV (mTup (mCons (mBin dMod (mCall dInt1 (mCons (mBin dIx (mVarB 1) (mC (.int 52))) mNil)) (mVarB 3)) mNil)))) sNx) (sSq (sSet 9 (xV (mBin dMod (mCall dInt1 (mCons (mBin dIx (mVarB 1) (mC (.int 53))) mNil)) (mVarB 3)))) (sRt (mCall m__law_paper_right (mCons (mVar 6) (mCons (mVar 7) (mCons (mVar 8) (mCons (mVar 9) (mCons (mBin dMod (mCall dInt1 (mCons (mBin dAdd (mBin dAdd (mBin dIx (mBin dIx (mVarB 6) (mVarB 9)) (mC (.int 1))) (mC (.int 1))) (mBin dMod (mCall dInt1 (mCons (mBin dIx (mVarB 1) (mC (.int 54))) mNil)) (mC (.int 15)))) mNil)) (mC (.int 16))) mNil))))))))))))))))))
def m_law : List D → Option D := runFn 1 11 b_law
/-! where each def stands -/
structure Tx (K : PySem.W.Frag) (mg : Str → Option Value) where
  f_mixed_in : Addr
  fd_mixed_in : FuncData
  F_mixed_in : Fun K "mixed_in" "mixed_in" (topS 3) f_mixed_in fd_mixed_in
  g_mixed_in : mg "mixed_in" = some (.ref f_mixed_in)
  b_mixed_in : Binds K fd_mixed_in ["state", "number"] []
  f_mixed_row : Addr
  fd_mixed_row : FuncData
  F_mixed_row : Fun K "mixed_row" "mixed_row" (topS 4) f_mixed_row fd_mixed_row
  g_mixed_row : mg "mixed_row" = some (.ref f_mixed_row)
  b_mixed_row : Binds K fd_mixed_row ["numbers"] []
  f_mark_of_two : Addr
  fd_mark_of_two : FuncData
  F_mark_of_two : Fun K "mark_of_two" "mark_of_two" (topS 5) f_mark_of_two fd_mark_of_two
  g_mark_of_two : mg "mark_of_two" = some (.ref f_mark_of_two)
  b_mark_of_two : Binds K fd_mark_of_two ["left", "right"] []
  f_tree_levels : Addr
  fd_tree_levels : FuncData
  F_tree_levels : Fun K "tree_levels" "tree_levels" (topS 6) f_tree_levels fd_tree_levels
  g_tree_levels : mg "tree_levels" = some (.ref f_tree_levels)
  b_tree_levels : Binds K fd_tree_levels ["numbers"] []
  f_tree_mark : Addr
  fd_tree_mark : FuncData
  F_tree_mark : Fun K "tree_mark" "tree_mark" (topS 7) f_tree_mark fd_tree_mark
  g_tree_mark : mg "tree_mark" = some (.ref f_tree_mark)
  b_tree_mark : Binds K fd_tree_mark ["numbers"] []
  f_tree_path : Addr
  fd_tree_path : FuncData
  F_tree_path : Fun K "tree_path" "tree_path" (topS 8) f_tree_path fd_tree_path
  g_tree_path : mg "tree_path" = some (.ref f_tree_path)
  b_tree_path : Binds K fd_tree_path ["numbers", "index"] []
  f_is_mark : Addr
  fd_is_mark : FuncData
  F_is_mark : Fun K "is_mark" "is_mark" (topS 9) f_is_mark fd_is_mark
  g_is_mark : mg "is_mark" = some (.ref f_is_mark)
  b_is_mark : Binds K fd_is_mark ["value"] []
  f_judge_path : Addr
  fd_judge_path : FuncData
  F_judge_path : Fun K "judge_path" "judge_path" (topS 10) f_judge_path fd_judge_path
  g_judge_path : mg "judge_path" = some (.ref f_judge_path)
  b_judge_path : Binds K fd_judge_path ["mark", "number", "value"] []
  f_is_number : Addr
  fd_is_number : FuncData
  F_is_number : Fun K "is_number" "is_number" (topS 12) f_is_number fd_is_number
  g_is_number : mg "is_number" = some (.ref f_is_number)
  b_is_number : Binds K fd_is_number ["value"] []
  f_part_marks : Addr
  fd_part_marks : FuncData
  F_part_marks : Fun K "part_marks" "part_marks" (topS 13) f_part_marks fd_part_marks
  g_part_marks : mg "part_marks" = some (.ref f_part_marks)
  b_part_marks : Binds K fd_part_marks ["paper", "draws"] []
  f_paper_mark : Addr
  fd_paper_mark : FuncData
  F_paper_mark : Fun K "paper_mark" "paper_mark" (topS 14) f_paper_mark fd_paper_mark
  g_paper_mark : mg "paper_mark" = some (.ref f_paper_mark)
  b_paper_mark : Binds K fd_paper_mark ["paper", "draws"] []
  f_shown_parts : Addr
  fd_shown_parts : FuncData
  F_shown_parts : Fun K "shown_parts" "shown_parts" (topS 15) f_shown_parts fd_shown_parts
  g_shown_parts : mg "shown_parts" = some (.ref f_shown_parts)
  b_shown_parts : Binds K fd_shown_parts ["paper", "draws", "places"] []
  f_is_shown_part : Addr
  fd_is_shown_part : FuncData
  F_is_shown_part : Fun K "is_shown_part" "is_shown_part" (topS 16) f_is_shown_part fd_is_shown_part
  g_is_shown_part : mg "is_shown_part" = some (.ref f_is_shown_part)
  b_is_shown_part : Binds K fd_is_shown_part ["mark", "value"] []
  f_judge_parts : Addr
  fd_judge_parts : FuncData
  F_judge_parts : Fun K "judge_parts" "judge_parts" (topS 17) f_judge_parts fd_judge_parts
  g_judge_parts : mg "judge_parts" = some (.ref f_judge_parts)
  b_judge_parts : Binds K fd_judge_parts ["mark", "value"] []
  f__law_mixed : Addr
  fd__law_mixed : FuncData
  F__law_mixed : Fun K "_law_mixed" "_law_mixed" (topS 19) f__law_mixed fd__law_mixed
  g__law_mixed : mg "_law_mixed" = some (.ref f__law_mixed)
  b__law_mixed : Binds K fd__law_mixed ["script", "k"] []
  f__law_row : Addr
  fd__law_row : FuncData
  F__law_row : Fun K "_law_row" "_law_row" (topS 20) f__law_row fd__law_row
  g__law_row : mg "_law_row" = some (.ref f__law_row)
  b__law_row : Binds K fd__law_row ["script", "many"] []
  f__law_is_int : Addr
  fd__law_is_int : FuncData
  F__law_is_int : Fun K "_law_is_int" "_law_is_int" (topS 21) f__law_is_int fd__law_is_int
  g__law_is_int : mg "_law_is_int" = some (.ref f__law_is_int)
  b__law_is_int : Binds K fd__law_is_int ["value"] []
  f__law_like : Addr
  fd__law_like : FuncData
  F__law_like : Fun K "_law_like" "_law_like" (topS 22) f__law_like fd__law_like
  g__law_like : mg "_law_like" = some (.ref f__law_like)
  b__law_like : Binds K fd__law_like ["value", "due"] []
  f__law_mixing : Addr
  fd__law_mixing : FuncData
  F__law_mixing : Fun K "_law_mixing" "_law_mixing" (topS 23) f__law_mixing fd__law_mixing
  g__law_mixing : mg "_law_mixing" = some (.ref f__law_mixing)
  b__law_mixing : Binds K fd__law_mixing ["numbers"] []
  f__law_two : Addr
  fd__law_two : FuncData
  F__law_two : Fun K "_law_two" "_law_two" (topS 24) f__law_two fd__law_two
  g__law_two : mg "_law_two" = some (.ref f__law_two)
  b__law_two : Binds K fd__law_two ["left", "right"] []
  f__law_cut : Addr
  fd__law_cut : FuncData
  F__law_cut : Fun K "_law_cut" "_law_cut" (topS 25) f__law_cut fd__law_cut
  g__law_cut : mg "_law_cut" = some (.ref f__law_cut)
  b__law_cut : Binds K fd__law_cut ["count"] []
  f__law_tree : Addr
  fd__law_tree : FuncData
  F__law_tree : Fun K "_law_tree" "_law_tree" (topS 26) f__law_tree fd__law_tree
  g__law_tree : mg "_law_tree" = some (.ref f__law_tree)
  b__law_tree : Binds K fd__law_tree ["marks"] []
  f__law_path : Addr
  fd__law_path : FuncData
  F__law_path : Fun K "_law_path" "_law_path" (topS 27) f__law_path fd__law_path
  g__law_path : mg "_law_path" = some (.ref f__law_path)
  b__law_path : Binds K fd__law_path ["marks", "index"] []
  f__law_singles : Addr
  fd__law_singles : FuncData
  F__law_singles : Fun K "_law_singles" "_law_singles" (topS 28) f__law_singles fd__law_singles
  g__law_singles : mg "_law_singles" = some (.ref f__law_singles)
  b__law_singles : Binds K fd__law_singles ["numbers"] []
  f__law_tree_right : Addr
  fd__law_tree_right : FuncData
  F__law_tree_right : Fun K "_law_tree_right" "_law_tree_right" (topS 29) f__law_tree_right fd__law_tree_right
  g__law_tree_right : mg "_law_tree_right" = some (.ref f__law_tree_right)
  b__law_tree_right : Binds K fd__law_tree_right ["numbers"] []
  f__law_edit_right : Addr
  fd__law_edit_right : FuncData
  F__law_edit_right : Fun K "_law_edit_right" "_law_edit_right" (topS 30) f__law_edit_right fd__law_edit_right
  g__law_edit_right : mg "_law_edit_right" = some (.ref f__law_edit_right)
  b__law_edit_right : Binds K fd__law_edit_right ["numbers", "place", "other"] []
  f__law_paper_marks : Addr
  fd__law_paper_marks : FuncData
  F__law_paper_marks : Fun K "_law_paper_marks" "_law_paper_marks" (topS 31) f__law_paper_marks fd__law_paper_marks
  g__law_paper_marks : mg "_law_paper_marks" = some (.ref f__law_paper_marks)
  b__law_paper_marks : Binds K fd__law_paper_marks ["paper", "draws"] []
  f__law_parts : Addr
  fd__law_parts : FuncData
  F__law_parts : Fun K "_law_parts" "_law_parts" (topS 32) f__law_parts fd__law_parts
  g__law_parts : mg "_law_parts" = some (.ref f__law_parts)
  b__law_parts : Binds K fd__law_parts ["paper", "draws", "cut", "places"] []
  f__law_paper_right : Addr
  fd__law_paper_right : FuncData
  F__law_paper_right : Fun K "_law_paper_right" "_law_paper_right" (topS 33) f__law_paper_right fd__law_paper_right
  g__law_paper_right : mg "_law_paper_right" = some (.ref f__law_paper_right)
  b__law_paper_right : Binds K fd__law_paper_right ["paper", "draws", "places", "spot", "worth"] []
  f_law : Addr
  fd_law : FuncData
  F_law : Fun K "law" "law" (topS 34) f_law fd_law
  g_law : mg "law" = some (.ref f_law)
  b_law : Binds K fd_law ["script"] []
  z_all : mg "all" = none
  z_any : mg "any" = none
  z_bool : mg "bool" = none
  z_int : mg "int" = none
  z_isinstance : mg "isinstance" = none
  z_len : mg "len" = none
  z_range : mg "range" = none
  z_str : mg "str" = none
  z_tuple : mg "tuple" = none
  z_zip : mg "zip" = none
  t_RING : Tok
  c_RING : mg "RING" = some (.int 256 t_RING)
  t_START : Tok
  c_START : mg "START" = some (.int 113 t_START)
section
variable {P : Program} {w : World} {K : PySem.W.Frag} {mg : Str → Option Value} {base : Heap}
theorem sc_mixed_in : FnScope ["state", "number", "found"] ["state", "number"] (defScope (topS 3)) := ⟨rfl, rfl, rfl, by decide +kernel, rfl, by decide +kernel, by decide +kernel⟩
theorem ok_mixed_in (T : Tx K mg) : FnOk P w K mg base CX0 1 T.f_mixed_in T.fd_mixed_in ["state", "number"] (spF K m_mixed_in) :=
  fn_ok T.F_mixed_in sc_mixed_in (fun cdv A outer s H E hr => by
    have nd := sc_mixed_in.nd
    have hu := hr.units
    exact (s_cons (s_set 2 nd (toV (r_bin op_mod d_mod (toB (r_bin op_addA d_add (toB (r_bin op_addA d_add (toB (r_bin op_mul d_mulI (toB r_int) (r_varB 0))) (toB (r_bin op_mul d_mulI (toB r_int) (toB (r_bin op_xor d_xor (r_varB 0) (r_varB 1))))))) (toB r_int))) (toB (r_glob rfl T.c_RING)))))
    (s_one (s_ret (r_bin op_xor d_xor (r_varB 2) (toB (r_bin op_fdiv d_div (r_varB 2) (toB r_int))))))))
theorem sc_mixed_row : FnScope ["numbers", "state", "number"] ["numbers"] (defScope (topS 4)) := ⟨rfl, rfl, rfl, by decide +kernel, rfl, by decide +kernel, by decide +kernel⟩
theorem ok_mixed_row (T : Tx K mg) : FnOk P w K mg base CX0 2 T.f_mixed_row T.fd_mixed_row ["numbers"] (spF K m_mixed_row) :=
  fn_ok T.F_mixed_row sc_mixed_row (fun cdv A outer s H E hr => by
    have nd := sc_mixed_row.nd
    have hu := hr.units
    exact (s_cons (s_set 1 nd (toV (r_glob rfl T.c_START)))
    (s_cons (s_for PassesOwn.never rfl (i_seq (r_var 0)) (g_n 2 nd) (s_one (s_set 1 nd (toV (r_call (ok_mixed_in T) (hr.mono (by decide)) rfl T.g_mixed_in T.F_mixed_in.kp T.b_mixed_in (r_pcons (r_var 1) (r_pcons (r_var 2) r_pnil)))))))
    (s_one (s_ret (r_var 1))))))
theorem okn_mixed_row (T : Tx K mg) : FnOk P w K mg base CX0 2 T.f_mixed_row T.fd_mixed_row ["numbers"] (spF K n_mixed_row) := okLe (ok_mixed_row T) le_mixed_row
theorem sc_mark_of_two : FnScope ["left", "right"] ["left", "right"] (defScope (topS 5)) := ⟨rfl, rfl, rfl, by decide +kernel, rfl, by decide +kernel, by decide +kernel⟩
theorem ok_mark_of_two (T : Tx K mg) : FnOk P w K mg base CX0 3 T.f_mark_of_two T.fd_mark_of_two ["left", "right"] (spF K m_mark_of_two) :=
  fn_ok T.F_mark_of_two sc_mark_of_two (fun cdv A outer s H E hr => by
    have nd := sc_mark_of_two.nd
    have hu := hr.units
    exact (s_one (s_ret (r_call (okn_mixed_row T) (hr.mono (by decide)) rfl T.g_mixed_row T.F_mixed_row.kp T.b_mixed_row (r_pcons (r_tup (r_pcons r_int (r_pcons (r_bin op_fdiv d_div (r_varB 0) (toB r_int)) (r_pcons (r_bin op_mod d_mod (r_varB 0) (toB r_int)) (r_pcons (r_bin op_fdiv d_div (r_varB 1) (toB r_int)) (r_pcons (r_bin op_mod d_mod (r_varB 1) (toB r_int)) r_pnil)))))) r_pnil)))))
theorem okn_mark_of_two (T : Tx K mg) : FnOk P w K mg base CX0 3 T.f_mark_of_two T.fd_mark_of_two ["left", "right"] (spF K n_mark_of_two) := okLe (ok_mark_of_two T) le_mark_of_two
theorem sc_tree_levels : FnScope ["numbers", "levels", "row", "pairs", "number", "place"] ["numbers"] (defScope (topS 6)) := ⟨rfl, rfl, rfl, by decide +kernel, rfl, by decide +kernel, by decide +kernel⟩
theorem ok_tree_levels (T : Tx K mg) : FnOk P w K mg base CX0 4 T.f_tree_levels T.fd_tree_levels ["numbers"] (spF K m_tree_levels) :=
  fn_ok T.F_tree_levels sc_tree_levels (fun cdv A outer s H E hr => by
    have nd := sc_tree_levels.nd
    have hu := hr.units
    exact (s_cons (s_set 1 nd (toO (r_lstN (r_pcons (ofN (r_lc (own := [("number", 4)]) rfl nd (i_seq (r_var 0)) (blkOk_by (by kernel_rfl)) (fun _ _ _ _ _ => (g_n 4 nd)) (fun _ _ _ _ _ => c_nil) (fun _ _ _ _ _ => (r_call (okn_mixed_row T) (hr.mono (by decide)) rfl T.g_mixed_row T.F_mixed_row.kp T.b_mixed_row (r_pcons (r_tup (r_pcons r_int (r_pcons (r_var 4) r_pnil))) r_pnil))))) r_pnil))))
    (s_cons (s_while 2000 PassesOwn.never (r_tcmp op_gt d_gt (toB (r_callB call_len d_len rfl T.z_len (by decide +kernel) (r_bcons (toB (r_ix (r_varB 1) (toB (r_neg (toB r_int))))) r_bnil))) (toB r_int) (nomark _)) (s_cons (s_set 2 nd (toV (r_ix (r_varB 1) (toB (r_neg (toB r_int))))))
    (s_cons (s_setF (s_setLc (own := [("place", 5)]) 3 rfl nd (i_rng3 rfl T.z_range (toB r_int) (toB (r_bin op_sub d_sub (toB (r_callB call_len d_len rfl T.z_len (by decide +kernel) (r_bcons (r_varB 2) r_bnil))) (toB r_int))) (toB r_int)) (blkOk_by (by kernel_rfl)) (fun _ _ _ _ _ => (g_n 5 nd)) (fun _ _ _ _ _ => c_nil) (fun _ _ _ _ _ => (r_call (okn_mark_of_two T) (hr.mono (by decide)) rfl T.g_mark_of_two T.F_mark_of_two.kp T.b_mark_of_two (r_pcons (r_ix (r_varB 2) (r_varB 5)) (r_pcons (r_ix (r_varB 2) (toB (r_bin op_addA d_add (r_varB 5) (toB r_int)))) r_pnil)))) (sw_true rfl rfl rfl (by decide +kernel))))
    (s_one (s_app (ps_expr (pe_bm PySem.F.plainAttrs_list PySem.F.slot_list_append PySem.F.type_list_append mt_append (pv 1) (pa_cons (r_bin op_addA d_add (r_varB 3) (toB (r_ifx (r_tcmp (op_eqD hu) d_eq (toB (r_bin op_mod d_mod (toB (r_callB call_len d_len rfl T.z_len (by decide +kernel) (r_bcons (r_varB 2) r_bnil))) (toB r_int))) (toB r_int) (nomark _)) (r_sl (r_varB 2) (r_oso (toB (r_neg (toB r_int)))) r_ono) (ofN (r_lstN r_pnil))))) pa_nil))))))))
    (s_one (s_frz 1 (s_ret (r_var 1)))))))
theorem okn_tree_levels (T : Tx K mg) : FnOk P w K mg base CX0 4 T.f_tree_levels T.fd_tree_levels ["numbers"] (spF K n_tree_levels) := okLe (ok_tree_levels T) le_tree_levels
theorem sc_tree_mark : FnScope ["numbers"] ["numbers"] (defScope (topS 7)) := ⟨rfl, rfl, rfl, by decide +kernel, rfl, by decide +kernel, by decide +kernel⟩
theorem ok_tree_mark (T : Tx K mg) : FnOk P w K mg base CX0 5 T.f_tree_mark T.fd_tree_mark ["numbers"] (spF K m_tree_mark) :=
  fn_ok T.F_tree_mark sc_tree_mark (fun cdv A outer s H E hr => by
    have nd := sc_tree_mark.nd
    have hu := hr.units
    exact (s_one (s_ret (r_ix (toB (r_ix (toB (r_call (okn_tree_levels T) (hr.mono (by decide)) rfl T.g_tree_levels T.F_tree_levels.kp T.b_tree_levels (r_pcons (r_var 0) r_pnil))) (toB (r_neg (toB r_int))))) (toB r_int)))))
theorem okn_tree_mark (T : Tx K mg) : FnOk P w K mg base CX0 5 T.f_tree_mark T.fd_tree_mark ["numbers"] (spF K n_tree_mark) := okLe (ok_tree_mark T) le_tree_mark
theorem sc_tree_path : FnScope ["numbers", "index", "found", "row", "other"] ["numbers", "index"] (defScope (topS 8)) := ⟨rfl, rfl, rfl, by decide +kernel, rfl, by decide +kernel, by decide +kernel⟩
theorem ok_tree_path (T : Tx K mg) : FnOk P w K mg base CX0 5 T.f_tree_path T.fd_tree_path ["numbers", "index"] (spF K m_tree_path) :=
  fn_ok T.F_tree_path sc_tree_path (fun cdv A outer s H E hr => by
    have nd := sc_tree_path.nd
    have hu := hr.units
    exact (s_cons (s_set 2 nd (toO (r_lstN r_pnil)))
    (s_cons (s_for PassesOwn.never rfl (i_seq (r_sl (toB (r_call (okn_tree_levels T) (hr.mono (by decide)) rfl T.g_tree_levels T.F_tree_levels.kp T.b_tree_levels (r_pcons (r_var 0) r_pnil))) r_ono (r_oso (toB (r_neg (toB r_int)))))) (g_n 3 nd) (s_cons (s_set 4 nd (toV (r_bin op_xor d_xor (r_varB 1) (toB r_int))))
    (s_cons (s_if (r_tcmp op_lt d_lt (r_varB 4) (toB (r_callB call_len d_len rfl T.z_len (by decide +kernel) (r_bcons (r_varB 3) r_bnil))) (nomark _)) (s_one (s_app (ps_expr (pe_bm PySem.F.plainAttrs_list PySem.F.slot_list_append PySem.F.type_list_append mt_append (pv 2) (pa_cons (r_tup (r_pcons (r_ifx (r_tcmp op_lt d_lt (r_varB 4) (r_varB 1) (nomark _)) r_str r_str) (r_pcons (r_ix (r_varB 3) (r_varB 4)) r_pnil))) pa_nil))))) s_nil)
    (s_one (s_aug 1 nd iop_fdiv d_div (toB r_int))))))
    (s_one (s_ret (r_callT call_tuple_of d_tuple rfl T.z_tuple (by decide +kernel) (r_bcons (r_varB 2) r_bnil)))))))
theorem okn_tree_path (T : Tx K mg) : FnOk P w K mg base CX0 5 T.f_tree_path T.fd_tree_path ["numbers", "index"] (spF K n_tree_path) := okLe (ok_tree_path T) le_tree_path
theorem sc_is_mark : FnScope ["value"] ["value"] (defScope (topS 9)) := ⟨rfl, rfl, rfl, by decide +kernel, rfl, by decide +kernel, by decide +kernel⟩
theorem ok_is_mark (T : Tx K mg) : FnOk P w K mg base CX0 1 T.f_is_mark T.fd_is_mark ["value"] (spF K m_is_mark) :=
  fn_ok T.F_is_mark sc_is_mark (fun cdv A outer s H E hr => by
    have nd := sc_is_mark.nd
    have hu := hr.units
    exact (s_one (s_ret (r_and (r_isi .int (r_varB 0) rfl T.z_isinstance rfl T.z_int (by decide +kernel)) (r_and (r_not (toB (r_isi .bool (r_varB 0) rfl T.z_isinstance rfl T.z_bool (by decide +kernel)))) (r_one (r_chain op_le d_le op_lt d_lt (toB r_int) (r_varB 0) (toB (r_glob rfl T.c_RING)))))))))
theorem okn_is_mark (T : Tx K mg) : FnOk P w K mg base CX0 1 T.f_is_mark T.fd_is_mark ["value"] (spF K n_is_mark) := okLe (ok_is_mark T) le_is_mark
theorem sc_judge_path : FnScope ["mark", "number", "value", "here", "step"] ["mark", "number", "value"] (defScope (topS 10)) := ⟨rfl, rfl, rfl, by decide +kernel, rfl, by decide +kernel, by decide +kernel⟩
theorem ok_judge_path (T : Tx K mg) : FnOk P w K mg base CX0 4 T.f_judge_path T.fd_judge_path ["mark", "number", "value"] (spF K m_judge_path) :=
  fn_ok T.F_judge_path sc_judge_path (fun cdv A outer s H E hr => by
    have nd := sc_judge_path.nd
    have hu := hr.units
    exact (s_cons (s_if (r_tnot (r_tru (toB (r_isi .tuple (r_varB 2) rfl T.z_isinstance rfl T.z_tuple (by decide +kernel))))) (s_one (s_ret r_bl)) s_nil)
    (s_cons (s_set 3 nd (toV (r_call (okn_mixed_row T) (hr.mono (by decide)) rfl T.g_mixed_row T.F_mixed_row.kp T.b_mixed_row (r_pcons (r_tup (r_pcons r_int (r_pcons (r_var 1) r_pnil))) r_pnil))))
    (s_cons (s_for PassesOwn.never rfl (i_seq (r_var 2)) (g_n 4 nd) (s_cons (s_if (PW.pt (r_tor (r_tnot (r_tru (toB (r_isi .tuple (r_varB 4) rfl T.z_isinstance rfl T.z_tuple (by decide +kernel))))) (r_tor (r_tcmp (op_neD hu) d_ne (toB (r_callB call_len d_len rfl T.z_len (by decide +kernel) (r_bcons (r_varB 4) r_bnil))) (toB r_int) (nomark _)) (r_tor (r_tcmp op_notIn_seq d_notin (toB (r_ix (r_varB 4) (toB r_int))) (toB (r_tup (r_pcons r_str (r_pcons r_str r_pnil)))) (by with_unfolding_all rfl)) (r_tor1 (r_tnot (r_tru (toB (r_call (okn_is_mark T) (hr.mono (by decide)) rfl T.g_is_mark T.F_is_mark.kp T.b_is_mark (r_pcons (r_ix (r_varB 4) (toB r_int)) r_pnil)))))))))) (s_one (s_ret r_bl)) s_nil)
    (s_one (s_set 3 nd (toV (r_ifx (r_tcmp (op_eqD hu) d_eq (toB (r_ix (r_varB 4) (toB r_int))) (toB r_str) (nomark _)) (r_call (okn_mark_of_two T) (hr.mono (by decide)) rfl T.g_mark_of_two T.F_mark_of_two.kp T.b_mark_of_two (r_pcons (r_ix (r_varB 4) (toB r_int)) (r_pcons (r_var 3) r_pnil))) (r_call (okn_mark_of_two T) (hr.mono (by decide)) rfl T.g_mark_of_two T.F_mark_of_two.kp T.b_mark_of_two (r_pcons (r_var 3) (r_pcons (r_ix (r_varB 4) (toB r_int)) r_pnil)))))))))
    (s_one (s_ret (r_cmp (op_eqD hu) d_eq (r_varB 3) (r_varB 0) (nomark _))))))))
theorem sc_is_number : FnScope ["value"] ["value"] (defScope (topS 12)) := ⟨rfl, rfl, rfl, by decide +kernel, rfl, by decide +kernel, by decide +kernel⟩
theorem ok_is_number (T : Tx K mg) : FnOk P w K mg base CX0 1 T.f_is_number T.fd_is_number ["value"] (spF K m_is_number) :=
  fn_ok T.F_is_number sc_is_number (fun cdv A outer s H E hr => by
    have nd := sc_is_number.nd
    have hu := hr.units
    exact (s_one (s_ret (r_and (r_isi .int (r_varB 0) rfl T.z_isinstance rfl T.z_int (by decide +kernel)) (r_one (r_not (toB (r_isi .bool (r_varB 0) rfl T.z_isinstance rfl T.z_bool (by decide +kernel)))))))))
theorem sc_part_marks : FnScope ["paper", "draws", "draw", "name", "worth"] ["paper", "draws"] (defScope (topS 13)) := ⟨rfl, rfl, rfl, by decide +kernel, rfl, by decide +kernel, by decide +kernel⟩
theorem ok_part_marks (T : Tx K mg) : FnOk P w K mg base CX0 3 T.f_part_marks T.fd_part_marks ["paper", "draws"] (spF K m_part_marks) :=
  fn_ok T.F_part_marks sc_part_marks (fun cdv A outer s H E hr => by
    have nd := sc_part_marks.nd
    have hu := hr.units
    exact (s_one (s_ret (r_callT call_tuple_of d_tuple rfl T.z_tuple (by decide +kernel) (r_bcons (toB (ofN (r_lc (own := [("draw", 2), ("name", 3), ("worth", 4)]) rfl nd (i_zip rfl T.z_zip (r_var 0) (r_var 1)) (blkOk_by (by kernel_rfl)) (fun _ _ _ _ _ => (g_t rfl (gs_c (g_t rfl (gs_c (g_n 3 nd) (gs_c (g_n 4 nd) gs_n))) (gs_c (g_n 2 nd) gs_n)))) (fun _ _ _ _ _ => c_nil) (fun _ _ _ _ _ => (r_call (okn_mixed_row T) (hr.mono (by decide)) rfl T.g_mixed_row T.F_mixed_row.kp T.b_mixed_row (r_pcons (r_tup (r_pcons (r_var 3) (r_pcons (r_var 4) (r_pcons (r_var 2) r_pnil)))) r_pnil)))))) r_bnil)))))
theorem okn_part_marks (T : Tx K mg) : FnOk P w K mg base CX0 3 T.f_part_marks T.fd_part_marks ["paper", "draws"] (spF K n_part_marks) := okLe (ok_part_marks T) le_part_marks
theorem sc_paper_mark : FnScope ["paper", "draws"] ["paper", "draws"] (defScope (topS 14)) := ⟨rfl, rfl, rfl, by decide +kernel, rfl, by decide +kernel, by decide +kernel⟩
theorem ok_paper_mark (T : Tx K mg) : FnOk P w K mg base CX0 6 T.f_paper_mark T.fd_paper_mark ["paper", "draws"] (spF K m_paper_mark) :=
  fn_ok T.F_paper_mark sc_paper_mark (fun cdv A outer s H E hr => by
    have nd := sc_paper_mark.nd
    have hu := hr.units
    exact (s_one (s_ret (r_call (okn_tree_mark T) (hr.mono (by decide)) rfl T.g_tree_mark T.F_tree_mark.kp T.b_tree_mark (r_pcons (r_call (okn_part_marks T) (hr.mono (by decide)) rfl T.g_part_marks T.F_part_marks.kp T.b_part_marks (r_pcons (r_var 0) (r_pcons (r_var 1) r_pnil))) r_pnil)))))
theorem sc_shown_parts : FnScope ["paper", "draws", "places", "marks", "index"] ["paper", "draws", "places"] (defScope (topS 15)) := ⟨rfl, rfl, rfl, by decide +kernel, rfl, by decide +kernel, by decide +kernel⟩
theorem ok_shown_parts (T : Tx K mg) : FnOk P w K mg base CX0 6 T.f_shown_parts T.fd_shown_parts ["paper", "draws", "places"] (spF K m_shown_parts) :=
  fn_ok T.F_shown_parts sc_shown_parts (fun cdv A outer s H E hr => by
    have nd := sc_shown_parts.nd
    have hu := hr.units
    exact (s_cons (s_set 3 nd (toV (r_call (okn_part_marks T) (hr.mono (by decide)) rfl T.g_part_marks T.F_part_marks.kp T.b_part_marks (r_pcons (r_var 0) (r_pcons (r_var 1) r_pnil)))))
    (s_one (s_ret (r_callT call_tuple_of d_tuple rfl T.z_tuple (by decide +kernel) (r_bcons (toB (ofN (r_lc (own := [("index", 4)]) rfl nd (i_seq (r_var 2)) (blkOk_by (by kernel_rfl)) (fun _ _ _ _ _ => (g_n 4 nd)) (fun _ _ _ _ _ => c_nil) (fun _ _ _ _ _ => (r_bin op_addA d_add (toB (r_bin op_addA d_add (toB (r_tup (r_pcons (r_var 4) r_pnil))) (toB (r_callT call_tuple_of d_tuple rfl T.z_tuple (by decide +kernel) (r_bcons (toB (r_ix (r_varB 0) (r_varB 4))) r_bnil))))) (toB (r_tup (r_pcons (r_ix (r_varB 1) (r_varB 4)) (r_pcons (r_call (okn_tree_path T) (hr.mono (by decide)) rfl T.g_tree_path T.F_tree_path.kp T.b_tree_path (r_pcons (r_var 3) (r_pcons (r_var 4) r_pnil))) r_pnil))))))))) r_bnil))))))
theorem sc_is_shown_part : FnScope ["mark", "value", "index", "name", "worth", "draw", "path", "number"] ["mark", "value"] (defScope (topS 16)) := ⟨rfl, rfl, rfl, by decide +kernel, rfl, by decide +kernel, by decide +kernel⟩
theorem ok_is_shown_part (T : Tx K mg) : FnOk P w K mg base CX0 5 T.f_is_shown_part T.fd_is_shown_part ["mark", "value"] (spF K m_is_shown_part) :=
  fn_ok T.F_is_shown_part sc_is_shown_part (fun cdv A outer s H E hr => by
    have nd := sc_is_shown_part.nd
    have hu := hr.units
    exact (s_cons (s_if (PW.pt (r_tor (r_tnot (r_tru (toB (r_isi .tuple (r_varB 1) rfl T.z_isinstance rfl T.z_tuple (by decide +kernel))))) (r_tor1 (r_tcmp (op_neD hu) d_ne (toB (r_callB call_len d_len rfl T.z_len (by decide +kernel) (r_bcons (r_varB 1) r_bnil))) (toB r_int) (nomark _))))) (s_one (s_ret r_bl)) s_nil)
    (s_cons (s_tg (r_var 1) (g_t rfl (gs_c (g_n 2 nd) (gs_c (g_n 3 nd) (gs_c (g_n 4 nd) (gs_c (g_n 5 nd) (gs_c (g_n 6 nd) gs_n)))))))
    (s_cons (s_if (PW.pt (r_tor (r_tnot (r_tru (toB (r_call (ok_is_number T) (hr.mono (by decide)) rfl T.g_is_number T.F_is_number.kp T.b_is_number (r_pcons (r_var 2) r_pnil))))) (r_tor1 (r_tcmp op_lt d_lt (r_varB 2) (toB r_int) (nomark _))))) (s_one (s_ret r_bl)) s_nil)
    (s_cons (s_if (r_tnot (r_tru (toB (r_callB (cr_all rfl) d_all rfl T.z_all (by decide +kernel) (r_bcons (toB (ofN (r_lc (own := [("number", 7)]) rfl nd (i_seq (r_tup (r_pcons (r_var 3) (r_pcons (r_var 4) (r_pcons (r_var 5) r_pnil))))) (blkOk_by (by kernel_rfl)) (fun _ _ _ _ _ => (g_n 7 nd)) (fun _ _ _ _ _ => c_nil) (fun _ _ _ _ _ => (r_and (r_call (ok_is_number T) (hr.mono (by decide)) rfl T.g_is_number T.F_is_number.kp T.b_is_number (r_pcons (r_var 7) r_pnil)) (r_one (r_chain op_le d_le op_le d_le (toB r_int) (r_varB 7) (toB r_int)))))))) r_bnil))))) (s_one (s_ret r_bl)) s_nil)
    (s_one (s_ret (r_call (ok_judge_path T) (hr.mono (by decide)) rfl T.g_judge_path T.F_judge_path.kp T.b_judge_path (r_pcons (r_var 0) (r_pcons (r_call (okn_mixed_row T) (hr.mono (by decide)) rfl T.g_mixed_row T.F_mixed_row.kp T.b_mixed_row (r_pcons (r_tup (r_pcons (r_var 3) (r_pcons (r_var 4) (r_pcons (r_var 5) r_pnil)))) r_pnil)) (r_pcons (r_var 6) r_pnil)))))))))))
theorem sc_judge_parts : FnScope ["mark", "value", "part"] ["mark", "value"] (defScope (topS 17)) := ⟨rfl, rfl, rfl, by decide +kernel, rfl, by decide +kernel, by decide +kernel⟩
theorem ok_judge_parts (T : Tx K mg) : FnOk P w K mg base CX0 6 T.f_judge_parts T.fd_judge_parts ["mark", "value"] (spF K m_judge_parts) :=
  fn_ok T.F_judge_parts sc_judge_parts (fun cdv A outer s H E hr => by
    have nd := sc_judge_parts.nd
    have hu := hr.units
    exact (s_one (s_ret (r_and (r_isi .tuple (r_varB 1) rfl T.z_isinstance rfl T.z_tuple (by decide +kernel)) (r_one (r_callB (cr_all rfl) d_all rfl T.z_all (by decide +kernel) (r_bcons (toB (ofN (r_lc (own := [("part", 2)]) rfl nd (i_seq (r_var 1)) (blkOk_by (by kernel_rfl)) (fun _ _ _ _ _ => (g_n 2 nd)) (fun _ _ _ _ _ => c_nil) (fun _ _ _ _ _ => (r_call (ok_is_shown_part T) (hr.mono (by decide)) rfl T.g_is_shown_part T.F_is_shown_part.kp T.b_is_shown_part (r_pcons (r_var 0) (r_pcons (r_var 2) r_pnil))))))) r_bnil)))))))
theorem sc__law_mixed : FnScope ["script", "k", "cell", "first", "second", "third"] ["script", "k"] (defScope (topS 19)) := ⟨rfl, rfl, rfl, by decide +kernel, rfl, by decide +kernel, by decide +kernel⟩
theorem ok__law_mixed (T : Tx K mg) : FnOk P w K mg base CX0 1 T.f__law_mixed T.fd__law_mixed ["script", "k"] (spF K m__law_mixed) :=
  fn_ok T.F__law_mixed sc__law_mixed (fun cdv A outer s H E hr => by
    have nd := sc__law_mixed.nd
    have hu := hr.units
    exact (s_cons (s_set 2 nd (toV r_int))
    (s_cons (s_if (r_tcmp op_gt d_gt (toB (r_callB call_len d_len rfl T.z_len (by decide +kernel) (r_bcons (r_varB 0) r_bnil))) (toB r_int) (nomark _)) (s_one (s_set 2 nd (toV (r_ix (r_varB 0) (toB (r_bin op_mod d_mod (r_varB 1) (toB (r_callB call_len d_len rfl T.z_len (by decide +kernel) (r_bcons (r_varB 0) r_bnil))))))))) s_nil)
    (s_cons (s_set 3 nd (toV (r_bin op_mod d_mod (toB (r_callT call_int1 d_int1 rfl T.z_int (by decide +kernel) (r_bcons (toB (r_bin op_addA d_add (toB (r_bin op_addA d_add (toB (r_bin op_mul d_mulI (r_varB 2) (toB r_int))) (toB (r_bin op_mul d_mulI (r_varB 1) (toB r_int))))) (toB r_int))) r_bnil))) (toB r_int))))
    (s_cons (s_set 4 nd (toV (r_bin op_mod d_mod (toB (r_callT call_int1 d_int1 rfl T.z_int (by decide +kernel) (r_bcons (toB (r_bin op_addA d_add (toB (r_bin op_addA d_add (toB (r_bin op_mul d_mulI (r_varB 3) (r_varB 3))) (toB (r_bin op_fdiv d_div (r_varB 3) (toB r_int))))) (toB (r_bin op_mul d_mulI (r_varB 1) (toB r_int))))) r_bnil))) (toB r_int))))
    (s_cons (s_set 5 nd (toV (r_bin op_mod d_mod (toB (r_callT call_int1 d_int1 rfl T.z_int (by decide +kernel) (r_bcons (toB (r_bin op_addA d_add (toB (r_bin op_addA d_add (toB (r_bin op_mul d_mulI (r_varB 4) (r_varB 4))) (toB (r_bin op_fdiv d_div (r_varB 4) (toB r_int))))) (toB r_int))) r_bnil))) (toB r_int))))
    (s_one (s_ret (r_bin op_mod d_mod (toB (r_bin op_fdiv d_div (r_varB 5) (toB r_int))) (toB r_int))))))))))
theorem sc__law_row : FnScope ["script", "many", "big", "row", "k"] ["script", "many"] (defScope (topS 20)) := ⟨rfl, rfl, rfl, by decide +kernel, rfl, by decide +kernel, by decide +kernel⟩
theorem ok__law_row (T : Tx K mg) : FnOk P w K mg base CX0 2 T.f__law_row T.fd__law_row ["script", "many"] (spF K m__law_row) :=
  fn_ok T.F__law_row sc__law_row (fun cdv A outer s H E hr => by
    have nd := sc__law_row.nd
    have hu := hr.units
    exact (s_cons (s_set 2 nd (toV r_int))
    (s_cons (s_if (PW.pt (r_tand (r_tcmp op_gt d_gt (toB (r_callB call_len d_len rfl T.z_len (by decide +kernel) (r_bcons (r_varB 0) r_bnil))) (toB r_int) (nomark _)) (r_tand1 (r_tcmp op_ge d_ge (toB (r_ix (r_varB 0) (toB r_int))) (toB (r_bin op_pow d_pow (toB r_int) (toB r_int))) (nomark _))))) (s_one (s_set 2 nd (toV (r_ix (r_varB 0) (toB r_int))))) s_nil)
    (s_cons (s_set 3 nd (toO (r_lstN r_pnil)))
    (s_cons (s_for PassesOwn.never rfl (i_rng1 rfl T.z_range (r_varB 1)) (g_n 4 nd) (s_one (s_if (r_tcmp op_gt d_gt (r_varB 2) (toB r_int) (nomark _)) (s_cons (s_app (ps_expr (pe_bm PySem.F.plainAttrs_list PySem.F.slot_list_append PySem.F.type_list_append mt_append (pv 3) (pa_cons (r_bin op_mod d_mod (toB (r_callT call_int1 d_int1 rfl T.z_int (by decide +kernel) (r_bcons (r_varB 2) r_bnil))) (toB r_int)) pa_nil))))
    (s_one (s_set 2 nd (toV (r_bin op_fdiv d_div (r_varB 2) (toB r_int)))))) (s_one (s_app (ps_expr (pe_bm PySem.F.plainAttrs_list PySem.F.slot_list_append PySem.F.type_list_append mt_append (pv 3) (pa_cons (r_call (ok__law_mixed T) (hr.mono (by decide)) rfl T.g__law_mixed T.F__law_mixed.kp T.b__law_mixed (r_pcons (r_var 0) (r_pcons (r_var 4) r_pnil))) pa_nil))))))))
    (s_one (s_frz 3 (s_ret (r_var 3)))))))))
theorem sc__law_is_int : FnScope ["value"] ["value"] (defScope (topS 21)) := ⟨rfl, rfl, rfl, by decide +kernel, rfl, by decide +kernel, by decide +kernel⟩
theorem ok__law_is_int (T : Tx K mg) : FnOk P w K mg base CX0 1 T.f__law_is_int T.fd__law_is_int ["value"] (spF K m__law_is_int) :=
  fn_ok T.F__law_is_int sc__law_is_int (fun cdv A outer s H E hr => by
    have nd := sc__law_is_int.nd
    have hu := hr.units
    exact (s_one (s_ret (r_and (r_isi .int (r_varB 0) rfl T.z_isinstance rfl T.z_int (by decide +kernel)) (r_one (r_not (toB (r_isi .bool (r_varB 0) rfl T.z_isinstance rfl T.z_bool (by decide +kernel)))))))))
theorem sc__law_like : FnScope ["value", "due", "k"] ["value", "due"] (defScope (topS 22)) := ⟨rfl, rfl, rfl, by decide +kernel, rfl, by decide +kernel, by decide +kernel⟩
theorem ok__law_like (T : Tx K mg) : ∀ n : Nat, FnOk P w K mg base CX0 (2 + n) T.f__law_like T.fd__law_like ["value", "due"] (spF K (m__law_like n))
  | 0 => never_ok
  | n + 1 => by
    have ih : FnOk P w K mg base CX0 (2 + n) T.f__law_like T.fd__law_like ["value", "due"] (spF K (m__law_like n)) := ok__law_like T n
    refine fn_ok (k := 2 + n) T.F__law_like sc__law_like ?_
    exact fun cdv A outer s H E hr => by
      have nd := sc__law_like.nd
      have hu := hr.units
      exact (s_cons (s_if (r_tcmp op_isA d_is (r_varB 1) (toB r_non) (nomark _)) (s_one (s_ret (r_cmp op_isA d_is (r_varB 0) (toB r_non) (nomark _)))) s_nil)
      (s_cons (s_if (r_tru (toB (r_isi .bool (r_varB 1) rfl T.z_isinstance rfl T.z_bool (by decide +kernel)))) (s_one (s_ret (r_and (r_isi .bool (r_varB 0) rfl T.z_isinstance rfl T.z_bool (by decide +kernel)) (r_one (r_cmp (op_eqD hu) d_eq (r_varB 0) (r_varB 1) (nomark _)))))) s_nil)
      (s_cons (s_if (r_tru (toB (r_isi .tuple (r_varB 1) rfl T.z_isinstance rfl T.z_tuple (by decide +kernel)))) (s_cons (s_if (PW.pt (r_tor (r_tnot (r_tru (toB (r_isi .tuple (r_varB 0) rfl T.z_isinstance rfl T.z_tuple (by decide +kernel))))) (r_tor1 (r_tcmp (op_neD hu) d_ne (toB (r_callB call_len d_len rfl T.z_len (by decide +kernel) (r_bcons (r_varB 0) r_bnil))) (toB (r_callB call_len d_len rfl T.z_len (by decide +kernel) (r_bcons (r_varB 1) r_bnil))) (nomark _))))) (s_one (s_ret r_bl)) s_nil)
      (s_one (s_ret (r_callB (cr_all rfl) d_all rfl T.z_all (by decide +kernel) (r_bcons (toB (ofN (r_lc (own := [("k", 2)]) rfl nd (i_rng1 rfl T.z_range (toB (r_callB call_len d_len rfl T.z_len (by decide +kernel) (r_bcons (r_varB 1) r_bnil)))) (blkOk_by (by kernel_rfl)) (fun _ _ _ _ _ => (g_n 2 nd)) (fun _ _ _ _ _ => c_nil) (fun _ _ _ _ _ => (r_call ih (hr.mono (by omega)) rfl T.g__law_like T.F__law_like.kp T.b__law_like (r_pcons (r_ix (r_varB 0) (r_varB 2)) (r_pcons (r_ix (r_varB 1) (r_varB 2)) r_pnil))))))) r_bnil))))) s_nil)
      (s_cons (s_if (r_tru (toB (r_isi .str (r_varB 1) rfl T.z_isinstance rfl T.z_str (by decide +kernel)))) (s_one (s_ret (r_and (r_isi .str (r_varB 0) rfl T.z_isinstance rfl T.z_str (by decide +kernel)) (r_one (r_cmp (op_eqD hu) d_eq (r_varB 0) (r_varB 1) (nomark _)))))) s_nil)
      (s_one (s_ret (r_and (r_call (ok__law_is_int T) (hr.mono (by omega)) rfl T.g__law_is_int T.F__law_is_int.kp T.b__law_is_int (r_pcons (r_var 0) r_pnil)) (r_one (r_cmp (op_eqD hu) d_eq (r_varB 0) (r_varB 1) (nomark _))))))))))
theorem sc__law_mixing : FnScope ["numbers", "state", "number", "found"] ["numbers"] (defScope (topS 23)) := ⟨rfl, rfl, rfl, by decide +kernel, rfl, by decide +kernel, by decide +kernel⟩
theorem ok__law_mixing (T : Tx K mg) : FnOk P w K mg base CX0 1 T.f__law_mixing T.fd__law_mixing ["numbers"] (spF K m__law_mixing) :=
  fn_ok T.F__law_mixing sc__law_mixing (fun cdv A outer s H E hr => by
    have nd := sc__law_mixing.nd
    have hu := hr.units
    exact (s_cons (s_set 1 nd (toV r_int))
    (s_cons (s_for PassesOwn.never rfl (i_seq (r_var 0)) (g_n 2 nd) (s_cons (s_set 3 nd (toV (r_bin op_mod d_mod (toB (r_callT call_int1 d_int1 rfl T.z_int (by decide +kernel) (r_bcons (toB (r_bin op_addA d_add (toB (r_bin op_addA d_add (toB (r_bin op_mul d_mulI (toB r_int) (r_varB 1))) (toB (r_bin op_mul d_mulI (toB r_int) (toB (r_bin op_xor d_xor (r_varB 1) (r_varB 2))))))) (toB r_int))) r_bnil))) (toB r_int))))
    (s_one (s_set 1 nd (toV (r_bin op_xor d_xor (r_varB 3) (toB (r_bin op_fdiv d_div (r_varB 3) (toB r_int)))))))))
    (s_one (s_ret (r_var 1))))))
theorem okn__law_mixing (T : Tx K mg) : FnOk P w K mg base CX0 1 T.f__law_mixing T.fd__law_mixing ["numbers"] (spF K n__law_mixing) := okLe (ok__law_mixing T) le__law_mixing
theorem sc__law_two : FnScope ["left", "right"] ["left", "right"] (defScope (topS 24)) := ⟨rfl, rfl, rfl, by decide +kernel, rfl, by decide +kernel, by decide +kernel⟩
theorem ok__law_two (T : Tx K mg) : FnOk P w K mg base CX0 2 T.f__law_two T.fd__law_two ["left", "right"] (spF K m__law_two) :=
  fn_ok T.F__law_two sc__law_two (fun cdv A outer s H E hr => by
    have nd := sc__law_two.nd
    have hu := hr.units
    exact (s_one (s_ret (r_call (okn__law_mixing T) (hr.mono (by decide)) rfl T.g__law_mixing T.F__law_mixing.kp T.b__law_mixing (r_pcons (r_tup (r_pcons r_int (r_pcons (r_bin op_fdiv d_div (r_varB 0) (toB r_int)) (r_pcons (r_bin op_mod d_mod (toB (r_callT call_int1 d_int1 rfl T.z_int (by decide +kernel) (r_bcons (r_varB 0) r_bnil))) (toB r_int)) (r_pcons (r_bin op_fdiv d_div (r_varB 1) (toB r_int)) (r_pcons (r_bin op_mod d_mod (toB (r_callT call_int1 d_int1 rfl T.z_int (by decide +kernel) (r_bcons (r_varB 1) r_bnil))) (toB r_int)) r_pnil)))))) r_pnil)))))
theorem okn__law_two (T : Tx K mg) : FnOk P w K mg base CX0 2 T.f__law_two T.fd__law_two ["left", "right"] (spF K n__law_two) := okLe (ok__law_two T) le__law_two
theorem sc__law_cut : FnScope ["count", "cut", "k"] ["count"] (defScope (topS 25)) := ⟨rfl, rfl, rfl, by decide +kernel, rfl, by decide +kernel, by decide +kernel⟩
theorem ok__law_cut (T : Tx K mg) : FnOk P w K mg base CX0 1 T.f__law_cut T.fd__law_cut ["count"] (spF K m__law_cut) :=
  fn_ok T.F__law_cut sc__law_cut (fun cdv A outer s H E hr => by
    have nd := sc__law_cut.nd
    have hu := hr.units
    exact (s_cons (s_set 1 nd (toV r_int))
    (s_cons (s_for PassesOwn.never rfl (i_rng1 rfl T.z_range (toB r_int)) (g_n 2 nd) (s_one (s_if (r_tcmp op_lt d_lt (toB (r_bin op_mul d_mulI (toB r_int) (r_varB 1))) (r_varB 0) (nomark _)) (s_one (s_set 1 nd (toV (r_bin op_mul d_mulI (toB r_int) (r_varB 1))))) s_nil)))
    (s_one (s_ret (r_var 1))))))
theorem sc__law_tree : FnScope ["marks", "cut"] ["marks"] (defScope (topS 26)) := ⟨rfl, rfl, rfl, by decide +kernel, rfl, by decide +kernel, by decide +kernel⟩
theorem ok__law_tree (T : Tx K mg) : ∀ n : Nat, FnOk P w K mg base CX0 (3 + n) T.f__law_tree T.fd__law_tree ["marks"] (spF K (m__law_tree n))
  | 0 => never_ok
  | n + 1 => by
    have ih : FnOk P w K mg base CX0 (3 + n) T.f__law_tree T.fd__law_tree ["marks"] (spF K (m__law_tree n)) := ok__law_tree T n
    refine fn_ok (k := 3 + n) T.F__law_tree sc__law_tree ?_
    exact fun cdv A outer s H E hr => by
      have nd := sc__law_tree.nd
      have hu := hr.units
      exact (s_cons (s_if (r_tcmp (op_eqD hu) d_eq (toB (r_callB call_len d_len rfl T.z_len (by decide +kernel) (r_bcons (r_varB 0) r_bnil))) (toB r_int) (nomark _)) (s_one (s_ret (r_ix (r_varB 0) (toB r_int)))) s_nil)
      (s_cons (s_set 1 nd (toV (r_call (ok__law_cut T) (hr.mono (by omega)) rfl T.g__law_cut T.F__law_cut.kp T.b__law_cut (r_pcons (r_callB call_len d_len rfl T.z_len (by decide +kernel) (r_bcons (r_varB 0) r_bnil)) r_pnil))))
      (s_one (s_ret (r_call (okn__law_two T) (hr.mono (by omega)) rfl T.g__law_two T.F__law_two.kp T.b__law_two (r_pcons (r_call ih (hr.mono (by omega)) rfl T.g__law_tree T.F__law_tree.kp T.b__law_tree (r_pcons (r_sl (r_varB 0) r_ono (r_oso (r_varB 1))) r_pnil)) (r_pcons (r_call ih (hr.mono (by omega)) rfl T.g__law_tree T.F__law_tree.kp T.b__law_tree (r_pcons (r_sl (r_varB 0) (r_oso (r_varB 1)) r_ono) r_pnil)) r_pnil)))))))
theorem okn__law_tree (T : Tx K mg) : FnOk P w K mg base CX0 13 T.f__law_tree T.fd__law_tree ["marks"] (spF K n__law_tree) := okLe (ok__law_tree T 10) le__law_tree
theorem sc__law_path : FnScope ["marks", "index", "cut"] ["marks", "index"] (defScope (topS 27)) := ⟨rfl, rfl, rfl, by decide +kernel, rfl, by decide +kernel, by decide +kernel⟩
theorem ok__law_path (T : Tx K mg) : ∀ n : Nat, FnOk P w K mg base CX0 (14 + n) T.f__law_path T.fd__law_path ["marks", "index"] (spF K (m__law_path n))
  | 0 => never_ok
  | n + 1 => by
    have ih : FnOk P w K mg base CX0 (14 + n) T.f__law_path T.fd__law_path ["marks", "index"] (spF K (m__law_path n)) := ok__law_path T n
    refine fn_ok (k := 14 + n) T.F__law_path sc__law_path ?_
    exact fun cdv A outer s H E hr => by
      have nd := sc__law_path.nd
      have hu := hr.units
      exact (s_cons (s_if (r_tcmp (op_eqD hu) d_eq (toB (r_callB call_len d_len rfl T.z_len (by decide +kernel) (r_bcons (r_varB 0) r_bnil))) (toB r_int) (nomark _)) (s_one (s_ret (r_tup r_pnil))) s_nil)
      (s_cons (s_set 2 nd (toV (r_call (ok__law_cut T) (hr.mono (by omega)) rfl T.g__law_cut T.F__law_cut.kp T.b__law_cut (r_pcons (r_callB call_len d_len rfl T.z_len (by decide +kernel) (r_bcons (r_varB 0) r_bnil)) r_pnil))))
      (s_cons (s_if (r_tcmp op_lt d_lt (r_varB 1) (r_varB 2) (nomark _)) (s_one (s_ret (r_bin op_addA d_add (toB (r_call ih (hr.mono (by omega)) rfl T.g__law_path T.F__law_path.kp T.b__law_path (r_pcons (r_sl (r_varB 0) r_ono (r_oso (r_varB 2))) (r_pcons (r_var 1) r_pnil)))) (toB (r_tup (r_pcons (r_tup (r_pcons r_str (r_pcons (r_call (okn__law_tree T) (hr.mono (by omega)) rfl T.g__law_tree T.F__law_tree.kp T.b__law_tree (r_pcons (r_sl (r_varB 0) (r_oso (r_varB 2)) r_ono) r_pnil)) r_pnil))) r_pnil)))))) s_nil)
      (s_one (s_ret (r_bin op_addA d_add (toB (r_call ih (hr.mono (by omega)) rfl T.g__law_path T.F__law_path.kp T.b__law_path (r_pcons (r_sl (r_varB 0) (r_oso (r_varB 2)) r_ono) (r_pcons (r_bin op_sub d_sub (r_varB 1) (r_varB 2)) r_pnil)))) (toB (r_tup (r_pcons (r_tup (r_pcons r_str (r_pcons (r_call (okn__law_tree T) (hr.mono (by omega)) rfl T.g__law_tree T.F__law_tree.kp T.b__law_tree (r_pcons (r_sl (r_varB 0) r_ono (r_oso (r_varB 2))) r_pnil)) r_pnil))) r_pnil)))))))))
theorem okn__law_path (T : Tx K mg) : FnOk P w K mg base CX0 24 T.f__law_path T.fd__law_path ["marks", "index"] (spF K n__law_path) := okLe (ok__law_path T 10) le__law_path
theorem sc__law_singles : FnScope ["numbers", "number"] ["numbers"] (defScope (topS 28)) := ⟨rfl, rfl, rfl, by decide +kernel, rfl, by decide +kernel, by decide +kernel⟩
theorem ok__law_singles (T : Tx K mg) : FnOk P w K mg base CX0 2 T.f__law_singles T.fd__law_singles ["numbers"] (spF K m__law_singles) :=
  fn_ok T.F__law_singles sc__law_singles (fun cdv A outer s H E hr => by
    have nd := sc__law_singles.nd
    have hu := hr.units
    exact (s_one (s_ret (r_callT call_tuple_of d_tuple rfl T.z_tuple (by decide +kernel) (r_bcons (toB (ofN (r_lc (own := [("number", 1)]) rfl nd (i_seq (r_var 0)) (blkOk_by (by kernel_rfl)) (fun _ _ _ _ _ => (g_n 1 nd)) (fun _ _ _ _ _ => c_nil) (fun _ _ _ _ _ => (r_call (okn__law_mixing T) (hr.mono (by decide)) rfl T.g__law_mixing T.F__law_mixing.kp T.b__law_mixing (r_pcons (r_tup (r_pcons r_int (r_pcons (r_var 1) r_pnil))) r_pnil)))))) r_bnil)))))
theorem sc__law_tree_right : FnScope ["numbers", "marks", "whole", "cut", "left", "right", "index", "path"] ["numbers"] (defScope (topS 29)) := ⟨rfl, rfl, rfl, by decide +kernel, rfl, by decide +kernel, by decide +kernel⟩
theorem ok__law_tree_right (T : Tx K mg) : FnOk P w K mg base CX0 25 T.f__law_tree_right T.fd__law_tree_right ["numbers"] (spF K m__law_tree_right) :=
  fn_ok T.F__law_tree_right sc__law_tree_right (fun cdv A outer s H E hr => by
    have nd := sc__law_tree_right.nd
    have hu := hr.units
    exact (s_cons (s_set 1 nd (toV (r_call (ok__law_singles T) (hr.mono (by decide)) rfl T.g__law_singles T.F__law_singles.kp T.b__law_singles (r_pcons (r_var 0) r_pnil))))
    (s_cons (s_set 2 nd (toV (r_call (okn__law_tree T) (hr.mono (by decide)) rfl T.g__law_tree T.F__law_tree.kp T.b__law_tree (r_pcons (r_var 1) r_pnil))))
    (s_cons (s_if (r_tnot (r_tru (toB (r_call (ok__law_like T 10) (hr.mono (by decide)) rfl T.g__law_like T.F__law_like.kp T.b__law_like (r_pcons (r_call (okn_tree_mark T) (hr.mono (by decide)) rfl T.g_tree_mark T.F_tree_mark.kp T.b_tree_mark (r_pcons (r_var 0) r_pnil)) (r_pcons (r_var 2) r_pnil)))))) (s_one (s_ret r_bl)) s_nil)
    (s_cons (s_if (r_tcmp op_gt d_gt (toB (r_callB call_len d_len rfl T.z_len (by decide +kernel) (r_bcons (r_varB 0) r_bnil))) (toB r_int) (nomark _)) (s_cons (s_set 3 nd (toV (r_call (ok__law_cut T) (hr.mono (by decide)) rfl T.g__law_cut T.F__law_cut.kp T.b__law_cut (r_pcons (r_callB call_len d_len rfl T.z_len (by decide +kernel) (r_bcons (r_varB 0) r_bnil)) r_pnil))))
    (s_cons (s_par 4 5 rfl nd (toV (r_call (okn_tree_mark T) (hr.mono (by decide)) rfl T.g_tree_mark T.F_tree_mark.kp T.b_tree_mark (r_pcons (r_sl (r_varB 0) r_ono (r_oso (r_varB 3))) r_pnil))) (toV (r_call (okn_tree_mark T) (hr.mono (by decide)) rfl T.g_tree_mark T.F_tree_mark.kp T.b_tree_mark (r_pcons (r_sl (r_varB 0) (r_oso (r_varB 3)) r_ono) r_pnil))) (by rfl))
    (s_cons (s_if (r_tnot (r_tru (toB (r_call (ok__law_like T 10) (hr.mono (by decide)) rfl T.g__law_like T.F__law_like.kp T.b__law_like (r_pcons (r_tup (r_pcons (r_var 4) (r_pcons (r_var 5) r_pnil))) (r_pcons (r_tup (r_pcons (r_call (okn__law_tree T) (hr.mono (by decide)) rfl T.g__law_tree T.F__law_tree.kp T.b__law_tree (r_pcons (r_sl (r_varB 1) r_ono (r_oso (r_varB 3))) r_pnil)) (r_pcons (r_call (okn__law_tree T) (hr.mono (by decide)) rfl T.g__law_tree T.F__law_tree.kp T.b__law_tree (r_pcons (r_sl (r_varB 1) (r_oso (r_varB 3)) r_ono) r_pnil)) r_pnil))) r_pnil)))))) (s_one (s_ret r_bl)) s_nil)
    (s_one (s_if (r_tnot (r_tru (toB (r_call (ok__law_like T 10) (hr.mono (by decide)) rfl T.g__law_like T.F__law_like.kp T.b__law_like (r_pcons (r_call (okn_mixed_row T) (hr.mono (by decide)) rfl T.g_mixed_row T.F_mixed_row.kp T.b_mixed_row (r_pcons (r_tup (r_pcons r_int (r_pcons (r_bin op_fdiv d_div (r_varB 4) (toB r_int)) (r_pcons (r_bin op_mod d_mod (toB (r_callT call_int1 d_int1 rfl T.z_int (by decide +kernel) (r_bcons (r_varB 4) r_bnil))) (toB r_int)) (r_pcons (r_bin op_fdiv d_div (r_varB 5) (toB r_int)) (r_pcons (r_bin op_mod d_mod (toB (r_callT call_int1 d_int1 rfl T.z_int (by decide +kernel) (r_bcons (r_varB 5) r_bnil))) (toB r_int)) r_pnil)))))) r_pnil)) (r_pcons (r_var 2) r_pnil)))))) (s_one (s_ret r_bl)) s_nil))))) s_nil)
    (s_cons (s_for PassesOwn.never rfl (i_rng1 rfl T.z_range (toB (r_callB call_len d_len rfl T.z_len (by decide +kernel) (r_bcons (r_varB 0) r_bnil)))) (g_n 6 nd) (s_cons (s_set 7 nd (toV (r_call (okn_tree_path T) (hr.mono (by decide)) rfl T.g_tree_path T.F_tree_path.kp T.b_tree_path (r_pcons (r_var 0) (r_pcons (r_var 6) r_pnil)))))
    (s_cons (s_if (PW.pt (r_tor (r_tnot (r_tru (toB (r_call (ok__law_like T 10) (hr.mono (by decide)) rfl T.g__law_like T.F__law_like.kp T.b__law_like (r_pcons (r_var 7) (r_pcons (r_call (okn__law_path T) (hr.mono (by decide)) rfl T.g__law_path T.F__law_path.kp T.b__law_path (r_pcons (r_var 1) (r_pcons (r_var 6) r_pnil))) r_pnil)))))) (r_tor1 (r_tcmp op_isNotA d_isnot (toB (r_call (ok_judge_path T) (hr.mono (by decide)) rfl T.g_judge_path T.F_judge_path.kp T.b_judge_path (r_pcons (r_var 2) (r_pcons (r_ix (r_varB 0) (r_varB 6)) (r_pcons (r_var 7) r_pnil))))) (toB r_bl) (nomark _))))) (s_one (s_ret r_bl)) s_nil)
    (s_one (s_if (r_tcmp op_isNotA d_isnot (toB (r_call (ok_judge_path T) (hr.mono (by decide)) rfl T.g_judge_path T.F_judge_path.kp T.b_judge_path (r_pcons (r_bin op_mod d_mod (toB (r_callT call_int1 d_int1 rfl T.z_int (by decide +kernel) (r_bcons (toB (r_bin op_addA d_add (toB (r_bin op_addA d_add (r_varB 2) (toB r_int))) (r_varB 6))) r_bnil))) (toB r_int)) (r_pcons (r_ix (r_varB 0) (r_varB 6)) (r_pcons (r_var 7) r_pnil))))) (toB r_bl) (nomark _)) (s_one (s_ret r_bl)) s_nil)))))
    (s_one (s_ret r_bl))))))))
theorem sc__law_edit_right : FnScope ["numbers", "place", "other", "changed", "mark", "path", "index", "old", "new", "unlike", "k"] ["numbers", "place", "other"] (defScope (topS 30)) := ⟨rfl, rfl, rfl, by decide +kernel, rfl, by decide +kernel, by decide +kernel⟩
theorem ok__law_edit_right (T : Tx K mg) : FnOk P w K mg base CX0 25 T.f__law_edit_right T.fd__law_edit_right ["numbers", "place", "other"] (spF K m__law_edit_right) :=
  fn_ok T.F__law_edit_right sc__law_edit_right (fun cdv A outer s H E hr => by
    have nd := sc__law_edit_right.nd
    have hu := hr.units
    exact (s_cons (s_set 3 nd (toV (r_bin op_addA d_add (toB (r_bin op_addA d_add (toB (r_sl (r_varB 0) r_ono (r_oso (r_varB 1)))) (toB (r_tup (r_pcons (r_var 2) r_pnil))))) (toB (r_sl (r_varB 0) (r_oso (toB (r_bin op_addA d_add (r_varB 1) (toB r_int)))) r_ono)))))
    (s_cons (s_par 4 5 rfl nd (toV (r_call (okn_tree_mark T) (hr.mono (by decide)) rfl T.g_tree_mark T.F_tree_mark.kp T.b_tree_mark (r_pcons (r_var 3) r_pnil))) (toV (r_call (okn_tree_path T) (hr.mono (by decide)) rfl T.g_tree_path T.F_tree_path.kp T.b_tree_path (r_pcons (r_var 0) (r_pcons (r_var 1) r_pnil)))) (by rfl))
    (s_cons (s_if (PW.pt (r_tor (r_tnot (r_tru (toB (r_call (ok__law_like T 10) (hr.mono (by decide)) rfl T.g__law_like T.F__law_like.kp T.b__law_like (r_pcons (r_var 4) (r_pcons (r_call (okn__law_tree T) (hr.mono (by decide)) rfl T.g__law_tree T.F__law_tree.kp T.b__law_tree (r_pcons (r_call (ok__law_singles T) (hr.mono (by decide)) rfl T.g__law_singles T.F__law_singles.kp T.b__law_singles (r_pcons (r_var 3) r_pnil)) r_pnil)) r_pnil)))))) (r_tor1 (r_tnot (r_tru (toB (r_call (ok__law_like T 10) (hr.mono (by decide)) rfl T.g__law_like T.F__law_like.kp T.b__law_like (r_pcons (r_call (okn_tree_path T) (hr.mono (by decide)) rfl T.g_tree_path T.F_tree_path.kp T.b_tree_path (r_pcons (r_var 3) (r_pcons (r_var 1) r_pnil))) (r_pcons (r_var 5) r_pnil))))))))) (s_one (s_ret r_bl)) s_nil)
    (s_cons (s_if (r_tcmp op_isNotA d_isnot (toB (r_call (ok_judge_path T) (hr.mono (by decide)) rfl T.g_judge_path T.F_judge_path.kp T.b_judge_path (r_pcons (r_var 4) (r_pcons (r_var 2) (r_pcons (r_var 5) r_pnil))))) (toB r_bl) (nomark _)) (s_one (s_ret r_bl)) s_nil)
    (s_cons (s_for PassesOwn.never rfl (i_rng1 rfl T.z_range (toB (r_callB call_len d_len rfl T.z_len (by decide +kernel) (r_bcons (r_varB 0) r_bnil)))) (g_n 6 nd) (s_cons (s_tg (r_tup (r_pcons (r_call (okn_tree_path T) (hr.mono (by decide)) rfl T.g_tree_path T.F_tree_path.kp T.b_tree_path (r_pcons (r_var 0) (r_pcons (r_var 6) r_pnil))) (r_pcons (r_call (okn_tree_path T) (hr.mono (by decide)) rfl T.g_tree_path T.F_tree_path.kp T.b_tree_path (r_pcons (r_var 3) (r_pcons (r_var 6) r_pnil))) r_pnil))) (g_t rfl (gs_c (g_n 7 nd) (gs_c (g_n 8 nd) gs_n))))
    (s_cons (s_if (PW.pt (r_tor (r_tnot (r_tru (toB (r_call (ok__law_like T 10) (hr.mono (by decide)) rfl T.g__law_like T.F__law_like.kp T.b__law_like (r_pcons (r_var 8) (r_pcons (r_call (okn__law_path T) (hr.mono (by decide)) rfl T.g__law_path T.F__law_path.kp T.b__law_path (r_pcons (r_call (ok__law_singles T) (hr.mono (by decide)) rfl T.g__law_singles T.F__law_singles.kp T.b__law_singles (r_pcons (r_var 3) r_pnil)) (r_pcons (r_var 6) r_pnil))) r_pnil)))))) (r_tor1 (r_tcmp (op_neD hu) d_ne (toB (r_callB call_len d_len rfl T.z_len (by decide +kernel) (r_bcons (r_varB 7) r_bnil))) (toB (r_callB call_len d_len rfl T.z_len (by decide +kernel) (r_bcons (r_varB 8) r_bnil))) (nomark _))))) (s_one (s_ret r_bl)) s_nil)
    (s_cons (s_setF (s_setLc (own := [("k", 10)]) 9 rfl nd (i_rng1 rfl T.z_range (toB (r_callB call_len d_len rfl T.z_len (by decide +kernel) (r_bcons (r_varB 7) r_bnil)))) (blkOk_by (by kernel_rfl)) (fun _ _ _ _ _ => (g_n 10 nd)) (fun _ _ _ _ _ => (c_one (r_tcmp (op_neD hu) d_ne (toB (r_ix (r_varB 7) (r_varB 10))) (toB (r_ix (r_varB 8) (r_varB 10))) (nomark _)))) (fun _ _ _ _ _ => (r_var 10)) (sw_true rfl rfl rfl (by decide +kernel))))
    (s_cons (s_if (PW.pt (r_tor (r_tcmp op_gt d_gt (toB (r_callB call_len d_len rfl T.z_len (by decide +kernel) (r_bcons (r_varB 9) r_bnil))) (toB r_int) (nomark _)) (r_tor1 (r_tru (toB (r_callB (cr_any rfl) d_any rfl T.z_any (by decide +kernel) (r_bcons (toB (ofN (r_lc (own := [("k", 10)]) rfl nd (i_seq (r_var 9)) (blkOk_by (by kernel_rfl)) (fun _ _ _ _ _ => (g_n 10 nd)) (fun _ _ _ _ _ => c_nil) (fun _ _ _ _ _ => (r_cmp (op_neD hu) d_ne (toB (r_ix (toB (r_ix (r_varB 7) (r_varB 10))) (toB r_int))) (toB (r_ix (toB (r_ix (r_varB 8) (r_varB 10))) (toB r_int))) (nomark _)))))) r_bnil))))))) (s_one (s_ret r_bl)) s_nil)
    (s_one (s_if (PW.pt (r_tand (r_tcmp (op_neD hu) d_ne (r_varB 6) (r_varB 1) (nomark _)) (r_tand1 (r_tcmp op_isNotA d_isnot (toB (r_call (ok_judge_path T) (hr.mono (by decide)) rfl T.g_judge_path T.F_judge_path.kp T.b_judge_path (r_pcons (r_var 4) (r_pcons (r_ix (r_varB 0) (r_varB 6)) (r_pcons (r_var 8) r_pnil))))) (toB r_bl) (nomark _))))) (s_one (s_ret r_bl)) s_nil)))))))
    (s_one (s_ret r_bl))))))))
theorem sc__law_paper_marks : FnScope ["paper", "draws", "k"] ["paper", "draws"] (defScope (topS 31)) := ⟨rfl, rfl, rfl, by decide +kernel, rfl, by decide +kernel, by decide +kernel⟩
theorem ok__law_paper_marks (T : Tx K mg) : FnOk P w K mg base CX0 2 T.f__law_paper_marks T.fd__law_paper_marks ["paper", "draws"] (spF K m__law_paper_marks) :=
  fn_ok T.F__law_paper_marks sc__law_paper_marks (fun cdv A outer s H E hr => by
    have nd := sc__law_paper_marks.nd
    have hu := hr.units
    exact (s_one (s_ret (r_callT call_tuple_of d_tuple rfl T.z_tuple (by decide +kernel) (r_bcons (toB (ofN (r_lc (own := [("k", 2)]) rfl nd (i_rng1 rfl T.z_range (toB (r_callB call_len d_len rfl T.z_len (by decide +kernel) (r_bcons (r_varB 0) r_bnil)))) (blkOk_by (by kernel_rfl)) (fun _ _ _ _ _ => (g_n 2 nd)) (fun _ _ _ _ _ => c_nil) (fun _ _ _ _ _ => (r_call (okn__law_mixing T) (hr.mono (by decide)) rfl T.g__law_mixing T.F__law_mixing.kp T.b__law_mixing (r_pcons (r_tup (r_pcons (r_ix (toB (r_ix (r_varB 0) (r_varB 2))) (toB r_int)) (r_pcons (r_ix (toB (r_ix (r_varB 0) (r_varB 2))) (toB r_int)) (r_pcons (r_ix (r_varB 1) (r_varB 2)) r_pnil)))) r_pnil)))))) r_bnil)))))
theorem sc__law_parts : FnScope ["paper", "draws", "cut", "places", "first", "second", "left", "right", "shown", "part", "k"] ["paper", "draws", "cut", "places"] (defScope (topS 32)) := ⟨rfl, rfl, rfl, by decide +kernel, rfl, by decide +kernel, by decide +kernel⟩
theorem ok__law_parts (T : Tx K mg) : FnOk P w K mg base CX0 7 T.f__law_parts T.fd__law_parts ["paper", "draws", "cut", "places"] (spF K m__law_parts) :=
  fn_ok T.F__law_parts sc__law_parts (fun cdv A outer s H E hr => by
    have nd := sc__law_parts.nd
    have hu := hr.units
    exact (s_cons (s_par 4 5 rfl nd (toV (ofN (r_lc (own := [("k", 10)]) rfl nd (i_seq (r_var 3)) (blkOk_by (by kernel_rfl)) (fun _ _ _ _ _ => (g_n 10 nd)) (fun _ _ _ _ _ => (c_one (r_tcmp op_lt d_lt (r_varB 10) (r_varB 2) (nomark _)))) (fun _ _ _ _ _ => (r_var 10))))) (toV (ofN (r_lc (own := [("k", 10)]) rfl nd (i_seq (r_var 3)) (blkOk_by (by kernel_rfl)) (fun _ _ _ _ _ => (g_n 10 nd)) (fun _ _ _ _ _ => (c_one (r_tcmp op_ge d_ge (r_varB 10) (r_varB 2) (nomark _)))) (fun _ _ _ _ _ => (r_bin op_sub d_sub (r_varB 10) (r_varB 2)))))) (by rfl))
    (s_cons (s_par3 6 7 8 rfl nd (toV (r_call (ok_paper_mark T) (hr.mono (by decide)) rfl T.g_paper_mark T.F_paper_mark.kp T.b_paper_mark (r_pcons (r_sl (r_varB 0) r_ono (r_oso (r_varB 2))) (r_pcons (r_sl (r_varB 1) r_ono (r_oso (r_varB 2))) r_pnil)))) (toV (r_call (ok_paper_mark T) (hr.mono (by decide)) rfl T.g_paper_mark T.F_paper_mark.kp T.b_paper_mark (r_pcons (r_sl (r_varB 0) (r_oso (r_varB 2)) r_ono) (r_pcons (r_sl (r_varB 1) (r_oso (r_varB 2)) r_ono) r_pnil)))) (toO (r_lstN r_pnil)) (by rfl))
    (s_cons (s_if (r_tcmp op_gt d_gt (toB (r_callB call_len d_len rfl T.z_len (by decide +kernel) (r_bcons (r_varB 4) r_bnil))) (toB r_int) (nomark _)) (s_one (s_for PassesOwn.never rfl (i_seq (r_call (ok_shown_parts T) (hr.mono (by decide)) rfl T.g_shown_parts T.F_shown_parts.kp T.b_shown_parts (r_pcons (r_sl (r_varB 0) r_ono (r_oso (r_varB 2))) (r_pcons (r_sl (r_varB 1) r_ono (r_oso (r_varB 2))) (r_pcons (r_callT call_tuple_of d_tuple rfl T.z_tuple (by decide +kernel) (r_bcons (r_varB 4) r_bnil)) r_pnil))))) (g_n 9 nd) (s_one (s_app (ps_expr (pe_bm PySem.F.plainAttrs_list PySem.F.slot_list_append PySem.F.type_list_append mt_append (pv 8) (pa_cons (r_bin op_addA d_add (toB (r_sl (r_varB 9) r_ono (r_oso (toB r_int)))) (toB (r_tup (r_pcons (r_bin op_addA d_add (toB (r_ix (r_varB 9) (toB r_int))) (toB (r_tup (r_pcons (r_tup (r_pcons r_str (r_pcons (r_var 7) r_pnil))) r_pnil)))) r_pnil)))) pa_nil))))))) s_nil)
    (s_cons (s_if (r_tcmp op_gt d_gt (toB (r_callB call_len d_len rfl T.z_len (by decide +kernel) (r_bcons (r_varB 5) r_bnil))) (toB r_int) (nomark _)) (s_one (s_for PassesOwn.never rfl (i_seq (r_call (ok_shown_parts T) (hr.mono (by decide)) rfl T.g_shown_parts T.F_shown_parts.kp T.b_shown_parts (r_pcons (r_sl (r_varB 0) (r_oso (r_varB 2)) r_ono) (r_pcons (r_sl (r_varB 1) (r_oso (r_varB 2)) r_ono) (r_pcons (r_callT call_tuple_of d_tuple rfl T.z_tuple (by decide +kernel) (r_bcons (r_varB 5) r_bnil)) r_pnil))))) (g_n 9 nd) (s_one (s_app (ps_expr (pe_bm PySem.F.plainAttrs_list PySem.F.slot_list_append PySem.F.type_list_append mt_append (pv 8) (pa_cons (r_bin op_addA d_add (toB (r_bin op_addA d_add (toB (r_tup (r_pcons (r_bin op_addA d_add (toB (r_ix (r_varB 9) (toB r_int))) (r_varB 2)) r_pnil))) (toB (r_sl (r_varB 9) (r_oso (toB r_int)) (r_oso (toB r_int)))))) (toB (r_tup (r_pcons (r_bin op_addA d_add (toB (r_ix (r_varB 9) (toB r_int))) (toB (r_tup (r_pcons (r_tup (r_pcons r_str (r_pcons (r_var 6) r_pnil))) r_pnil)))) r_pnil)))) pa_nil))))))) s_nil)
    (s_one (s_ret (r_callT call_tuple_of d_tuple rfl T.z_tuple (by decide +kernel) (r_bcons (r_varB 8) r_bnil)))))))))
theorem sc__law_paper_right : FnScope ["paper", "draws", "places", "spot", "worth", "cut", "mark", "shown", "left", "right", "marks", "singles", "due", "changed", "old", "new", "k"] ["paper", "draws", "places", "spot", "worth"] (defScope (topS 33)) := ⟨rfl, rfl, rfl, by decide +kernel, rfl, by decide +kernel, by decide +kernel⟩
theorem ok__law_paper_right (T : Tx K mg) : FnOk P w K mg base CX0 25 T.f__law_paper_right T.fd__law_paper_right ["paper", "draws", "places", "spot", "worth"] (spF K m__law_paper_right) :=
  fn_ok T.F__law_paper_right sc__law_paper_right (fun cdv A outer s H E hr => by
    have nd := sc__law_paper_right.nd
    have hu := hr.units
    exact (s_cons (s_set 5 nd (toV (r_call (ok__law_cut T) (hr.mono (by decide)) rfl T.g__law_cut T.F__law_cut.kp T.b__law_cut (r_pcons (r_callB call_len d_len rfl T.z_len (by decide +kernel) (r_bcons (r_varB 0) r_bnil)) r_pnil))))
    (s_cons (s_par 6 7 rfl nd (toV (r_call (ok_paper_mark T) (hr.mono (by decide)) rfl T.g_paper_mark T.F_paper_mark.kp T.b_paper_mark (r_pcons (r_var 0) (r_pcons (r_var 1) r_pnil)))) (toV (r_call (ok_shown_parts T) (hr.mono (by decide)) rfl T.g_shown_parts T.F_shown_parts.kp T.b_shown_parts (r_pcons (r_var 0) (r_pcons (r_var 1) (r_pcons (r_var 2) r_pnil))))) (by rfl))
    (s_cons (s_par 8 9 rfl nd (toV (r_call (ok_paper_mark T) (hr.mono (by decide)) rfl T.g_paper_mark T.F_paper_mark.kp T.b_paper_mark (r_pcons (r_sl (r_varB 0) r_ono (r_oso (r_varB 5))) (r_pcons (r_sl (r_varB 1) r_ono (r_oso (r_varB 5))) r_pnil)))) (toV (r_call (ok_paper_mark T) (hr.mono (by decide)) rfl T.g_paper_mark T.F_paper_mark.kp T.b_paper_mark (r_pcons (r_sl (r_varB 0) (r_oso (r_varB 5)) r_ono) (r_pcons (r_sl (r_varB 1) (r_oso (r_varB 5)) r_ono) r_pnil)))) (by rfl))
    (s_cons (s_set 10 nd (toV (r_call (ok__law_paper_marks T) (hr.mono (by decide)) rfl T.g__law_paper_marks T.F__law_paper_marks.kp T.b__law_paper_marks (r_pcons (r_var 0) (r_pcons (r_var 1) r_pnil)))))
    (s_cons (s_set 11 nd (toV (r_call (ok__law_singles T) (hr.mono (by decide)) rfl T.g__law_singles T.F__law_singles.kp T.b__law_singles (r_pcons (r_var 10) r_pnil))))
    (s_cons (s_if (r_tnot (r_tru (toB (r_call (ok__law_like T 10) (hr.mono (by decide)) rfl T.g__law_like T.F__law_like.kp T.b__law_like (r_pcons (r_tup (r_pcons (r_var 8) (r_pcons (r_var 9) r_pnil))) (r_pcons (r_tup (r_pcons (r_call (okn__law_tree T) (hr.mono (by decide)) rfl T.g__law_tree T.F__law_tree.kp T.b__law_tree (r_pcons (r_sl (r_varB 11) r_ono (r_oso (r_varB 5))) r_pnil)) (r_pcons (r_call (okn__law_tree T) (hr.mono (by decide)) rfl T.g__law_tree T.F__law_tree.kp T.b__law_tree (r_pcons (r_sl (r_varB 11) (r_oso (r_varB 5)) r_ono) r_pnil)) r_pnil))) r_pnil)))))) (s_one (s_ret r_bl)) s_nil)
    (s_cons (s_set 12 nd (toV (r_callT call_tuple_of d_tuple rfl T.z_tuple (by decide +kernel) (r_bcons (toB (ofN (r_lc (own := [("k", 16)]) rfl nd (i_seq (r_var 2)) (blkOk_by (by kernel_rfl)) (fun _ _ _ _ _ => (g_n 16 nd)) (fun _ _ _ _ _ => c_nil) (fun _ _ _ _ _ => (r_bin op_addA d_add (toB (r_bin op_addA d_add (toB (r_tup (r_pcons (r_var 16) r_pnil))) (toB (r_ix (r_varB 0) (r_varB 16))))) (toB (r_tup (r_pcons (r_ix (r_varB 1) (r_varB 16)) (r_pcons (r_call (okn__law_path T) (hr.mono (by decide)) rfl T.g__law_path T.F__law_path.kp T.b__law_path (r_pcons (r_var 11) (r_pcons (r_var 16) r_pnil))) r_pnil))))))))) r_bnil))))
    (s_cons (s_if (PW.pt (r_tor (r_tnot (r_tru (toB (r_call (ok__law_like T 10) (hr.mono (by decide)) rfl T.g__law_like T.F__law_like.kp T.b__law_like (r_pcons (r_var 6) (r_pcons (r_call (okn__law_two T) (hr.mono (by decide)) rfl T.g__law_two T.F__law_two.kp T.b__law_two (r_pcons (r_var 8) (r_pcons (r_var 9) r_pnil))) r_pnil)))))) (r_tor1 (r_tnot (r_tru (toB (r_call (ok__law_like T 10) (hr.mono (by decide)) rfl T.g__law_like T.F__law_like.kp T.b__law_like (r_pcons (r_var 7) (r_pcons (r_var 12) r_pnil))))))))) (s_one (s_ret r_bl)) s_nil)
    (s_cons (s_if (PW.pt (r_tor (r_tnot (r_tru (toB (r_call (ok__law_like T 10) (hr.mono (by decide)) rfl T.g__law_like T.F__law_like.kp T.b__law_like (r_pcons (r_call (ok__law_parts T) (hr.mono (by decide)) rfl T.g__law_parts T.F__law_parts.kp T.b__law_parts (r_pcons (r_var 0) (r_pcons (r_var 1) (r_pcons (r_var 5) (r_pcons (r_var 2) r_pnil))))) (r_pcons (r_var 12) r_pnil)))))) (r_tor1 (r_tcmp op_isNotA d_isnot (toB (r_call (ok_judge_parts T) (hr.mono (by decide)) rfl T.g_judge_parts T.F_judge_parts.kp T.b_judge_parts (r_pcons (r_var 6) (r_pcons (r_var 12) r_pnil)))) (toB r_bl) (nomark _))))) (s_one (s_ret r_bl)) s_nil)
    (s_cons (s_if (r_tcmp op_isNotA d_isnot (toB (r_call (ok_judge_parts T) (hr.mono (by decide)) rfl T.g_judge_parts T.F_judge_parts.kp T.b_judge_parts (r_pcons (r_bin op_mod d_mod (toB (r_callT call_int1 d_int1 rfl T.z_int (by decide +kernel) (r_bcons (toB (r_bin op_addA d_add (r_varB 6) (toB r_int))) r_bnil))) (toB r_int)) (r_pcons (r_var 12) r_pnil)))) (toB r_bl) (nomark _)) (s_one (s_ret r_bl)) s_nil)
    (s_cons (s_set 13 nd (toV (r_bin op_addA d_add (toB (r_bin op_addA d_add (toB (r_sl (r_varB 0) r_ono (r_oso (r_varB 3)))) (toB (r_tup (r_pcons (r_tup (r_pcons (r_ix (toB (r_ix (r_varB 0) (r_varB 3))) (toB r_int)) (r_pcons (r_var 4) r_pnil))) r_pnil))))) (toB (r_sl (r_varB 0) (r_oso (toB (r_bin op_addA d_add (r_varB 3) (toB r_int)))) r_ono)))))
    (s_cons (s_par 14 15 rfl nd (toV (r_ix (toB (r_call (ok_shown_parts T) (hr.mono (by decide)) rfl T.g_shown_parts T.F_shown_parts.kp T.b_shown_parts (r_pcons (r_var 0) (r_pcons (r_var 1) (r_pcons (r_tup (r_pcons (r_var 3) r_pnil)) r_pnil))))) (toB r_int))) (toV (r_call (ok_paper_mark T) (hr.mono (by decide)) rfl T.g_paper_mark T.F_paper_mark.kp T.b_paper_mark (r_pcons (r_var 13) (r_pcons (r_var 1) r_pnil)))) (by rfl))
    (s_cons (s_if (r_tnot (r_tru (toB (r_call (ok__law_like T 10) (hr.mono (by decide)) rfl T.g__law_like T.F__law_like.kp T.b__law_like (r_pcons (r_var 15) (r_pcons (r_call (okn__law_tree T) (hr.mono (by decide)) rfl T.g__law_tree T.F__law_tree.kp T.b__law_tree (r_pcons (r_call (ok__law_singles T) (hr.mono (by decide)) rfl T.g__law_singles T.F__law_singles.kp T.b__law_singles (r_pcons (r_call (ok__law_paper_marks T) (hr.mono (by decide)) rfl T.g__law_paper_marks T.F__law_paper_marks.kp T.b__law_paper_marks (r_pcons (r_var 13) (r_pcons (r_var 1) r_pnil))) r_pnil)) r_pnil)) r_pnil)))))) (s_one (s_ret r_bl)) s_nil)
    (s_one (s_ret (r_cmp op_isA d_is (toB (r_call (ok_judge_parts T) (hr.mono (by decide)) rfl T.g_judge_parts T.F_judge_parts.kp T.b_judge_parts (r_pcons (r_var 15) (r_pcons (r_tup (r_pcons (r_bin op_addA d_add (toB (r_bin op_addA d_add (toB (r_sl (r_varB 14) r_ono (r_oso (toB r_int)))) (toB (r_tup (r_pcons (r_var 4) r_pnil))))) (toB (r_sl (r_varB 14) (r_oso (toB r_int)) r_ono))) r_pnil)) r_pnil)))) (toB r_bl) (nomark _))))))))))))))))))
theorem sc_law : FnScope ["script", "row", "many", "count", "numbers", "place", "paper", "draws", "places", "spot", "k"] ["script"] (defScope (topS 34)) := ⟨rfl, rfl, rfl, by decide +kernel, rfl, by decide +kernel, by decide +kernel⟩
theorem ok_law (T : Tx K mg) : FnOk P w K mg base CX0 26 T.f_law T.fd_law ["script"] (spF K m_law) :=
  fn_ok T.F_law sc_law (fun cdv A outer s H E hr => by
    have nd := sc_law.nd
    have hu := hr.units
    exact (s_cons (s_set 1 nd (toV (r_call (ok__law_row T) (hr.mono (by decide)) rfl T.g__law_row T.F__law_row.kp T.b__law_row (r_pcons (r_var 0) (r_pcons r_int r_pnil)))))
    (s_cons (s_par 2 3 rfl nd (toV (r_bin op_addA d_add (toB r_int) (toB (r_bin op_mod d_mod (toB (r_callT call_int1 d_int1 rfl T.z_int (by decide +kernel) (r_bcons (toB (r_ix (r_varB 1) (toB r_int))) r_bnil))) (toB r_int))))) (toV (r_bin op_addA d_add (toB r_int) (toB (r_bin op_mod d_mod (toB (r_callT call_int1 d_int1 rfl T.z_int (by decide +kernel) (r_bcons (toB (r_ix (r_varB 1) (toB r_int))) r_bnil))) (toB r_int))))) (by rfl))
    (s_cons (s_set 4 nd (toV (r_callT call_tuple_of d_tuple rfl T.z_tuple (by decide +kernel) (r_bcons (toB (ofN (r_lc (own := [("k", 10)]) rfl nd (i_rng1 rfl T.z_range (r_varB 2)) (blkOk_by (by kernel_rfl)) (fun _ _ _ _ _ => (g_n 10 nd)) (fun _ _ _ _ _ => c_nil) (fun _ _ _ _ _ => (r_bin op_mod d_mod (toB (r_callT call_int1 d_int1 rfl T.z_int (by decide +kernel) (r_bcons (toB (r_ix (r_varB 1) (toB (r_bin op_addA d_add (toB r_int) (r_varB 10))))) r_bnil))) (toB r_int)))))) r_bnil))))
    (s_cons (s_set 5 nd (toV (r_bin op_mod d_mod (toB (r_callT call_int1 d_int1 rfl T.z_int (by decide +kernel) (r_bcons (toB (r_ix (r_varB 1) (toB r_int))) r_bnil))) (r_varB 2))))
    (s_cons (s_if (r_tnot (r_tru (toB (r_call (ok__law_tree_right T) (hr.mono (by decide)) rfl T.g__law_tree_right T.F__law_tree_right.kp T.b__law_tree_right (r_pcons (r_var 4) r_pnil))))) (s_one (s_ret r_bl)) s_nil)
    (s_cons (s_if (r_tnot (r_tru (toB (r_call (ok__law_edit_right T) (hr.mono (by decide)) rfl T.g__law_edit_right T.F__law_edit_right.kp T.b__law_edit_right (r_pcons (r_var 4) (r_pcons (r_var 5) (r_pcons (r_bin op_mod d_mod (toB (r_callT call_int1 d_int1 rfl T.z_int (by decide +kernel) (r_bcons (toB (r_bin op_addA d_add (toB (r_bin op_addA d_add (toB (r_ix (r_varB 4) (r_varB 5))) (toB r_int))) (toB (r_bin op_mod d_mod (toB (r_callT call_int1 d_int1 rfl T.z_int (by decide +kernel) (r_bcons (toB (r_ix (r_varB 1) (toB r_int))) r_bnil))) (toB r_int))))) r_bnil))) (toB r_int)) r_pnil))))))) (s_one (s_ret r_bl)) s_nil)
    (s_cons (s_set 6 nd (toV (r_callT call_tuple_of d_tuple rfl T.z_tuple (by decide +kernel) (r_bcons (toB (ofN (r_lc (own := [("k", 10)]) rfl nd (i_rng1 rfl T.z_range (r_varB 3)) (blkOk_by (by kernel_rfl)) (fun _ _ _ _ _ => (g_n 10 nd)) (fun _ _ _ _ _ => c_nil) (fun _ _ _ _ _ => (r_tup (r_pcons (r_bin op_mod d_mod (toB (r_callT call_int1 d_int1 rfl T.z_int (by decide +kernel) (r_bcons (toB (r_ix (r_varB 1) (toB (r_bin op_addA d_add (toB r_int) (toB (r_bin op_mul d_mulI (toB r_int) (r_varB 10))))))) r_bnil))) (toB r_int)) (r_pcons (r_bin op_mod d_mod (toB (r_callT call_int1 d_int1 rfl T.z_int (by decide +kernel) (r_bcons (toB (r_ix (r_varB 1) (toB (r_bin op_addA d_add (toB r_int) (toB (r_bin op_mul d_mulI (toB r_int) (r_varB 10))))))) r_bnil))) (toB r_int)) r_pnil))))))) r_bnil))))
    (s_cons (s_set 7 nd (toV (r_callT call_tuple_of d_tuple rfl T.z_tuple (by decide +kernel) (r_bcons (toB (ofN (r_lc (own := [("k", 10)]) rfl nd (i_rng1 rfl T.z_range (r_varB 3)) (blkOk_by (by kernel_rfl)) (fun _ _ _ _ _ => (g_n 10 nd)) (fun _ _ _ _ _ => c_nil) (fun _ _ _ _ _ => (r_bin op_mod d_mod (toB (r_callT call_int1 d_int1 rfl T.z_int (by decide +kernel) (r_bcons (toB (r_ix (r_varB 1) (toB (r_bin op_addA d_add (toB r_int) (toB (r_bin op_mul d_mulI (toB r_int) (r_varB 10))))))) r_bnil))) (toB r_int)))))) r_bnil))))
    (s_cons (s_set 8 nd (toV (r_callT call_tuple_of d_tuple rfl T.z_tuple (by decide +kernel) (r_bcons (toB (ofN (r_lc (own := [("k", 10)]) rfl nd (i_rng1 rfl T.z_range (r_varB 3)) (blkOk_by (by kernel_rfl)) (fun _ _ _ _ _ => (g_n 10 nd)) (fun _ _ _ _ _ => (c_one (r_tcmp (op_eqD hu) d_eq (toB (r_bin op_mod d_mod (toB (r_callT call_int1 d_int1 rfl T.z_int (by decide +kernel) (r_bcons (toB (r_ix (r_varB 1) (toB (r_bin op_addA d_add (toB r_int) (r_varB 10))))) r_bnil))) (toB r_int))) (toB r_int) (nomark _)))) (fun _ _ _ _ _ => (r_var 10))))) r_bnil))))
    (s_cons (s_if (r_tcmp (op_eqD hu) d_eq (toB (r_callB call_len d_len rfl T.z_len (by decide +kernel) (r_bcons (r_varB 8) r_bnil))) (toB r_int) (nomark _)) (s_one (s_set 8 nd (toV (r_tup (r_pcons (r_bin op_mod d_mod (toB (r_callT call_int1 d_int1 rfl T.z_int (by decide +kernel) (r_bcons (toB (r_ix (r_varB 1) (toB r_int))) r_bnil))) (r_varB 3)) r_pnil))))) s_nil)
    (s_cons (s_set 9 nd (toV (r_bin op_mod d_mod (toB (r_callT call_int1 d_int1 rfl T.z_int (by decide +kernel) (r_bcons (toB (r_ix (r_varB 1) (toB r_int))) r_bnil))) (r_varB 3))))
    (s_one (s_ret (r_call (ok__law_paper_right T) (hr.mono (by decide)) rfl T.g__law_paper_right T.F__law_paper_right.kp T.b__law_paper_right (r_pcons (r_var 6) (r_pcons (r_var 7) (r_pcons (r_var 8) (r_pcons (r_var 9) (r_pcons (r_bin op_mod d_mod (toB (r_callT call_int1 d_int1 rfl T.z_int (by decide +kernel) (r_bcons (toB (r_bin op_addA d_add (toB (r_bin op_addA d_add (toB (r_ix (toB (r_ix (r_varB 6) (r_varB 9))) (toB r_int))) (toB r_int))) (toB (r_bin op_mod d_mod (toB (r_callT call_int1 d_int1 rfl T.z_int (by decide +kernel) (r_bcons (toB (r_ix (r_varB 1) (toB r_int))) r_bnil))) (toB r_int))))) r_bnil))) (toB r_int)) r_pnil))))))))))))))))))))
end
/-! the head -/
def dn (x : Str) (i : Nat) : He.FnD := ⟨(x, none), x, x, defArgs (topS i), defBody (topS i), defScope (topS i)⟩
def fnl : List He.FnD := [dn "mixed_in" 3, dn "mixed_row" 4, dn "mark_of_two" 5, dn "tree_levels" 6, dn "tree_mark" 7, dn "tree_path" 8, dn "is_mark" 9, dn "judge_path" 10, dn "is_number" 12, dn "part_marks" 13, dn "paper_mark" 14, dn "shown_parts" 15, dn "is_shown_part" 16, dn "judge_parts" 17, dn "_law_mixed" 19, dn "_law_row" 20, dn "_law_is_int" 21, dn "_law_like" 22, dn "_law_mixing" 23, dn "_law_two" 24, dn "_law_cut" 25, dn "_law_tree" 26, dn "_law_path" 27, dn "_law_singles" 28, dn "_law_tree_right" 29, dn "_law_edit_right" 30, dn "_law_paper_marks" 31, dn "_law_parts" 32, dn "_law_paper_right" 33, dn "law" 34]
def fal0 : List He.Fa := [.glo "mixed_in", .glo "mixed_row", .glo "mark_of_two", .glo "tree_levels", .glo "tree_mark", .glo "tree_path", .glo "is_mark", .glo "judge_path", .glo "is_number", .glo "part_marks", .glo "paper_mark", .glo "shown_parts", .glo "is_shown_part", .glo "judge_parts", .glo "_law_mixed", .glo "_law_row", .glo "_law_is_int", .glo "_law_like", .glo "_law_mixing", .glo "_law_two", .glo "_law_cut", .glo "_law_tree", .glo "_law_path", .glo "_law_singles", .glo "_law_tree_right", .glo "_law_edit_right", .glo "_law_paper_marks", .glo "_law_parts", .glo "_law_paper_right", .glo "law"]
def fal1 : List He.Fa := [.keep "mixed_in", .keep "mixed_row", .keep "mark_of_two", .keep "tree_levels", .keep "tree_mark", .keep "tree_path", .keep "is_mark", .keep "judge_path", .keep "is_number", .keep "part_marks", .keep "paper_mark", .keep "shown_parts", .keep "is_shown_part", .keep "judge_parts", .keep "_law_mixed", .keep "_law_row", .keep "_law_is_int", .keep "_law_like", .keep "_law_mixing", .keep "_law_two", .keep "_law_cut", .keep "_law_tree", .keep "_law_path", .keep "_law_singles", .keep "_law_tree_right", .keep "_law_edit_right", .keep "_law_paper_marks", .keep "_law_parts", .keep "_law_paper_right", .keep "law"]
def fal2 : List He.Fa := [.free "all", .free "any", .free "bool", .free "int", .free "isinstance", .free "len", .free "range", .free "str", .free "tuple", .free "zip", .int "RING" 256, .int "START" 113]
def fal : List He.Fa := fal0 ++ fal1 ++ fal2
def nms0 : List Str := ["mixed_in", "mixed_row", "mark_of_two", "tree_levels", "tree_mark", "tree_path", "is_mark", "judge_path", "is_number", "part_marks", "paper_mark", "shown_parts", "is_shown_part", "judge_parts", "_law_mixed", "_law_row", "_law_is_int", "_law_like", "_law_mixing", "_law_two", "_law_cut", "_law_tree", "_law_path", "_law_singles", "_law_tree_right", "_law_edit_right", "_law_paper_marks", "_law_parts", "_law_paper_right", "RING"]
def nms1 : List Str := ["START"]
def nms : List Str := nms0 ++ nms1
abbrev R : PySem.W.OpenRow := PySem.W.OpenLaw.row PySem.Challenge.rw_sealskept_k67_whole_trees_split
abbrev hk : PySem.W.Hook := He.hookE 4 fal fnl
def ob (s : PySem.W.SharedT) : He.Al := He.obsG 4 fal fnl (HandSHeadRun.getT s)
theorem ob_eq (s : PySem.W.SharedT) : ob s = hk.obs s.abs := He.obsG_eq (HandSHeadRun.getT_eq s)
set_option maxHeartbeats 0 in
theorem run (w : World) : HandSHeadRun.RunEq R (PySem.W.view R.prog [34]) hk ob 20000 nms w := by
  intro os
  kernel_rfl
theorem facts {K : PySem.W.Frag} {h : Heap} {mg : Str → Option Value} (X : K.In h) (G : h.Ns mainGlobals mg) (c : He.SaysE fal fnl K) : ∃ T : Tx K mg, ∀ (s : Shared) (u : Value), BindsTo s T.fd_law ⟨[u], []⟩ [("script", u)] := by
  obtain ⟨f0, fd0, F0, g0, b0, B0⟩ := def_at X G c "mixed_in" (topS 3) ["state", "number"] 0 0 30 rfl rfl rfl (fun _ _ _ _ _ _ us hl => match us, hl with | [_, _], _ => rfl)
  obtain ⟨f1, fd1, F1, g1, b1, B1⟩ := def_at X G c "mixed_row" (topS 4) ["numbers"] 1 1 31 rfl rfl rfl (fun _ _ _ _ _ _ us hl => match us, hl with | [_], _ => rfl)
  obtain ⟨f2, fd2, F2, g2, b2, B2⟩ := def_at X G c "mark_of_two" (topS 5) ["left", "right"] 2 2 32 rfl rfl rfl (fun _ _ _ _ _ _ us hl => match us, hl with | [_, _], _ => rfl)
  obtain ⟨f3, fd3, F3, g3, b3, B3⟩ := def_at X G c "tree_levels" (topS 6) ["numbers"] 3 3 33 rfl rfl rfl (fun _ _ _ _ _ _ us hl => match us, hl with | [_], _ => rfl)
  obtain ⟨f4, fd4, F4, g4, b4, B4⟩ := def_at X G c "tree_mark" (topS 7) ["numbers"] 4 4 34 rfl rfl rfl (fun _ _ _ _ _ _ us hl => match us, hl with | [_], _ => rfl)
  obtain ⟨f5, fd5, F5, g5, b5, B5⟩ := def_at X G c "tree_path" (topS 8) ["numbers", "index"] 5 5 35 rfl rfl rfl (fun _ _ _ _ _ _ us hl => match us, hl with | [_, _], _ => rfl)
  obtain ⟨f6, fd6, F6, g6, b6, B6⟩ := def_at X G c "is_mark" (topS 9) ["value"] 6 6 36 rfl rfl rfl (fun _ _ _ _ _ _ us hl => match us, hl with | [_], _ => rfl)
  obtain ⟨f7, fd7, F7, g7, b7, B7⟩ := def_at X G c "judge_path" (topS 10) ["mark", "number", "value"] 7 7 37 rfl rfl rfl (fun _ _ _ _ _ _ us hl => match us, hl with | [_, _, _], _ => rfl)
  obtain ⟨f8, fd8, F8, g8, b8, B8⟩ := def_at X G c "is_number" (topS 12) ["value"] 8 8 38 rfl rfl rfl (fun _ _ _ _ _ _ us hl => match us, hl with | [_], _ => rfl)
  obtain ⟨f9, fd9, F9, g9, b9, B9⟩ := def_at X G c "part_marks" (topS 13) ["paper", "draws"] 9 9 39 rfl rfl rfl (fun _ _ _ _ _ _ us hl => match us, hl with | [_, _], _ => rfl)
  obtain ⟨f10, fd10, F10, g10, b10, B10⟩ := def_at X G c "paper_mark" (topS 14) ["paper", "draws"] 10 10 40 rfl rfl rfl (fun _ _ _ _ _ _ us hl => match us, hl with | [_, _], _ => rfl)
  obtain ⟨f11, fd11, F11, g11, b11, B11⟩ := def_at X G c "shown_parts" (topS 15) ["paper", "draws", "places"] 11 11 41 rfl rfl rfl (fun _ _ _ _ _ _ us hl => match us, hl with | [_, _, _], _ => rfl)
  obtain ⟨f12, fd12, F12, g12, b12, B12⟩ := def_at X G c "is_shown_part" (topS 16) ["mark", "value"] 12 12 42 rfl rfl rfl (fun _ _ _ _ _ _ us hl => match us, hl with | [_, _], _ => rfl)
  obtain ⟨f13, fd13, F13, g13, b13, B13⟩ := def_at X G c "judge_parts" (topS 17) ["mark", "value"] 13 13 43 rfl rfl rfl (fun _ _ _ _ _ _ us hl => match us, hl with | [_, _], _ => rfl)
  obtain ⟨f14, fd14, F14, g14, b14, B14⟩ := def_at X G c "_law_mixed" (topS 19) ["script", "k"] 14 14 44 rfl rfl rfl (fun _ _ _ _ _ _ us hl => match us, hl with | [_, _], _ => rfl)
  obtain ⟨f15, fd15, F15, g15, b15, B15⟩ := def_at X G c "_law_row" (topS 20) ["script", "many"] 15 15 45 rfl rfl rfl (fun _ _ _ _ _ _ us hl => match us, hl with | [_, _], _ => rfl)
  obtain ⟨f16, fd16, F16, g16, b16, B16⟩ := def_at X G c "_law_is_int" (topS 21) ["value"] 16 16 46 rfl rfl rfl (fun _ _ _ _ _ _ us hl => match us, hl with | [_], _ => rfl)
  obtain ⟨f17, fd17, F17, g17, b17, B17⟩ := def_at X G c "_law_like" (topS 22) ["value", "due"] 17 17 47 rfl rfl rfl (fun _ _ _ _ _ _ us hl => match us, hl with | [_, _], _ => rfl)
  obtain ⟨f18, fd18, F18, g18, b18, B18⟩ := def_at X G c "_law_mixing" (topS 23) ["numbers"] 18 18 48 rfl rfl rfl (fun _ _ _ _ _ _ us hl => match us, hl with | [_], _ => rfl)
  obtain ⟨f19, fd19, F19, g19, b19, B19⟩ := def_at X G c "_law_two" (topS 24) ["left", "right"] 19 19 49 rfl rfl rfl (fun _ _ _ _ _ _ us hl => match us, hl with | [_, _], _ => rfl)
  obtain ⟨f20, fd20, F20, g20, b20, B20⟩ := def_at X G c "_law_cut" (topS 25) ["count"] 20 20 50 rfl rfl rfl (fun _ _ _ _ _ _ us hl => match us, hl with | [_], _ => rfl)
  obtain ⟨f21, fd21, F21, g21, b21, B21⟩ := def_at X G c "_law_tree" (topS 26) ["marks"] 21 21 51 rfl rfl rfl (fun _ _ _ _ _ _ us hl => match us, hl with | [_], _ => rfl)
  obtain ⟨f22, fd22, F22, g22, b22, B22⟩ := def_at X G c "_law_path" (topS 27) ["marks", "index"] 22 22 52 rfl rfl rfl (fun _ _ _ _ _ _ us hl => match us, hl with | [_, _], _ => rfl)
  obtain ⟨f23, fd23, F23, g23, b23, B23⟩ := def_at X G c "_law_singles" (topS 28) ["numbers"] 23 23 53 rfl rfl rfl (fun _ _ _ _ _ _ us hl => match us, hl with | [_], _ => rfl)
  obtain ⟨f24, fd24, F24, g24, b24, B24⟩ := def_at X G c "_law_tree_right" (topS 29) ["numbers"] 24 24 54 rfl rfl rfl (fun _ _ _ _ _ _ us hl => match us, hl with | [_], _ => rfl)
  obtain ⟨f25, fd25, F25, g25, b25, B25⟩ := def_at X G c "_law_edit_right" (topS 30) ["numbers", "place", "other"] 25 25 55 rfl rfl rfl (fun _ _ _ _ _ _ us hl => match us, hl with | [_, _, _], _ => rfl)
  obtain ⟨f26, fd26, F26, g26, b26, B26⟩ := def_at X G c "_law_paper_marks" (topS 31) ["paper", "draws"] 26 26 56 rfl rfl rfl (fun _ _ _ _ _ _ us hl => match us, hl with | [_, _], _ => rfl)
  obtain ⟨f27, fd27, F27, g27, b27, B27⟩ := def_at X G c "_law_parts" (topS 32) ["paper", "draws", "cut", "places"] 27 27 57 rfl rfl rfl (fun _ _ _ _ _ _ us hl => match us, hl with | [_, _, _, _], _ => rfl)
  obtain ⟨f28, fd28, F28, g28, b28, B28⟩ := def_at X G c "_law_paper_right" (topS 33) ["paper", "draws", "places", "spot", "worth"] 28 28 58 rfl rfl rfl (fun _ _ _ _ _ _ us hl => match us, hl with | [_, _, _, _, _], _ => rfl)
  obtain ⟨f29, fd29, F29, g29, b29, B29⟩ := def_at X G c "law" (topS 34) ["script"] 29 29 59 rfl rfl rfl (fun _ _ _ _ _ _ us hl => match us, hl with | [_], _ => rfl)
  have z0 := free_at X G c "all" 60 rfl
  have z1 := free_at X G c "any" 61 rfl
  have z2 := free_at X G c "bool" 62 rfl
  have z3 := free_at X G c "int" 63 rfl
  have z4 := free_at X G c "isinstance" 64 rfl
  have z5 := free_at X G c "len" 65 rfl
  have z6 := free_at X G c "range" 66 rfl
  have z7 := free_at X G c "str" 67 rfl
  have z8 := free_at X G c "tuple" 68 rfl
  have z9 := free_at X G c "zip" 69 rfl
  obtain ⟨t0, c0⟩ := int_at X G c "RING" 256 70 rfl
  obtain ⟨t1, c1⟩ := int_at X G c "START" 113 71 rfl
  exact ⟨{ f_mixed_in := f0, fd_mixed_in := fd0, F_mixed_in := F0, g_mixed_in := g0, b_mixed_in := b0, f_mixed_row := f1, fd_mixed_row := fd1, F_mixed_row := F1, g_mixed_row := g1, b_mixed_row := b1, f_mark_of_two := f2, fd_mark_of_two := fd2, F_mark_of_two := F2, g_mark_of_two := g2, b_mark_of_two := b2, f_tree_levels := f3, fd_tree_levels := fd3, F_tree_levels := F3, g_tree_levels := g3, b_tree_levels := b3, f_tree_mark := f4, fd_tree_mark := fd4, F_tree_mark := F4, g_tree_mark := g4, b_tree_mark := b4, f_tree_path := f5, fd_tree_path := fd5, F_tree_path := F5, g_tree_path := g5, b_tree_path := b5, f_is_mark := f6, fd_is_mark := fd6, F_is_mark := F6, g_is_mark := g6, b_is_mark := b6, f_judge_path := f7, fd_judge_path := fd7, F_judge_path := F7, g_judge_path := g7, b_judge_path := b7, f_is_number := f8, fd_is_number := fd8, F_is_number := F8, g_is_number := g8, b_is_number := b8, f_part_marks := f9, fd_part_marks := fd9, F_part_marks := F9, g_part_marks := g9, b_part_marks := b9, f_paper_mark := f10, fd_paper_mark := fd10, F_paper_mark := F10, g_paper_mark := g10, b_paper_mark := b10, f_shown_parts := f11, fd_shown_parts := fd11, F_shown_parts := F11, g_shown_parts := g11, b_shown_parts := b11, f_is_shown_part := f12, fd_is_shown_part := fd12, F_is_shown_part := F12, g_is_shown_part := g12, b_is_shown_part := b12, f_judge_parts := f13, fd_judge_parts := fd13, F_judge_parts := F13, g_judge_parts := g13, b_judge_parts := b13, f__law_mixed := f14, fd__law_mixed := fd14, F__law_mixed := F14, g__law_mixed := g14, b__law_mixed := b14, f__law_row := f15, fd__law_row := fd15, F__law_row := F15, g__law_row := g15, b__law_row := b15, f__law_is_int := f16, fd__law_is_int := fd16, F__law_is_int := F16, g__law_is_int := g16, b__law_is_int := b16, f__law_like := f17, fd__law_like := fd17, F__law_like := F17, g__law_like := g17, b__law_like := b17, f__law_mixing := f18, fd__law_mixing := fd18, F__law_mixing := F18, g__law_mixing := g18, b__law_mixing := b18, f__law_two := f19, fd__law_two := fd19, F__law_two := F19, g__law_two := g19, b__law_two := b19, f__law_cut := f20, fd__law_cut := fd20, F__law_cut := F20, g__law_cut := g20, b__law_cut := b20, f__law_tree := f21, fd__law_tree := fd21, F__law_tree := F21, g__law_tree := g21, b__law_tree := b21, f__law_path := f22, fd__law_path := fd22, F__law_path := F22, g__law_path := g22, b__law_path := b22, f__law_singles := f23, fd__law_singles := fd23, F__law_singles := F23, g__law_singles := g23, b__law_singles := b23, f__law_tree_right := f24, fd__law_tree_right := fd24, F__law_tree_right := F24, g__law_tree_right := g24, b__law_tree_right := b24, f__law_edit_right := f25, fd__law_edit_right := fd25, F__law_edit_right := F25, g__law_edit_right := g25, b__law_edit_right := b25, f__law_paper_marks := f26, fd__law_paper_marks := fd26, F__law_paper_marks := F26, g__law_paper_marks := g26, b__law_paper_marks := b26, f__law_parts := f27, fd__law_parts := fd27, F__law_parts := F27, g__law_parts := g27, b__law_parts := b27, f__law_paper_right := f28, fd__law_paper_right := fd28, F__law_paper_right := F28, g__law_paper_right := g28, b__law_paper_right := b28, f_law := f29, fd_law := fd29, F_law := F29, g_law := g29, b_law := b29, z_all := z0, z_any := z1, z_bool := z2, z_int := z3, z_isinstance := z4, z_len := z5, z_range := z6, z_str := z7, z_tuple := z8, z_zip := z9, t_RING := t0, c_RING := c0, t_START := t1, c_START := c1 }, fun s u => B29 s [u] rfl⟩
end K67

set_option Elab.async false
set_option linter.all false
set_option maxRecDepth 100000
set_option maxHeartbeats 4000000
set_option autoImplicit false
namespace K67
open PySem PySem.Spec PyProof.Rows L2 SK
/-! ### the bounds of a mark -/
def inB (x : Int) : Prop := 0 ≤ x ∧ x < 256
theorem xor_b : ∀ f : Nat, f < 256 → 0 ≤ Builtin.bitXor (f : Int) ((f : Int) / 8) ∧ Builtin.bitXor (f : Int) ((f : Int) / 8) < 256 := by decide +kernel
theorem mixI_b (s x : Int) : inB (mixI s x) := by
  unfold mixI
  have h0 := Int.emod_nonneg (17 * s + 31 * (Builtin.bitXor s x) + 7) (show (256 : Int) ≠ 0 by decide)
  have h1 := Int.emod_lt_of_pos (17 * s + 31 * (Builtin.bitXor s x) + 7) (show (0 : Int) < 256 by decide)
  generalize (17 * s + 31 * (Builtin.bitXor s x) + 7) % 256 = f at h0 h1
  obtain ⟨n, rfl⟩ := Int.eq_ofNat_of_zero_le h0
  exact xor_b n (by omega)
theorem foldl_b : ∀ (xs : List Int) (s : Int), inB s → inB (xs.foldl mixI s)
  | [], _, h => h
  | x :: xs, s, _ => foldl_b xs _ (mixI_b s x)
theorem mixR_b (xs : List Int) : inB (mixR xs) := by unfold mixR; exact foldl_b xs 113 (by unfold inB; omega)
theorem hI_b (x : Int) : inB (hI x) := by unfold hI; exact mixR_b _
theorem TI_b (l r : Int) : inB (TI l r) := by unfold TI; exact mixR_b _
/-! ### the tree -/
theorem cutN_lt {n : Nat} (h : 2 ≤ n) : 1 ≤ cutN n ∧ cutN n < n := by
  unfold cutN
  split
  · omega
  · split
    · omega
    · split <;> omega
def tr (xs : List Int) : Int := ltree 5 xs
def pa (xs : List Int) (i : Nat) : List (Bool × Int) := lpath 5 xs i
theorem one_of {α : Type} {xs : List α} (h : xs.length = 1) : ∃ x, xs = [x] := List.length_eq_one_iff.mp h
theorem tr_moreG {T : Int → Int → Int} {xs : List Int} (h : 2 ≤ xs.length) (h2 : xs.length ≤ 12) : ltreeG T 5 xs = T (ltreeG T 5 (xs.take (cutN xs.length))) (ltreeG T 5 (xs.drop (cutN xs.length))) := by
  match xs, h, h2 with
  | [_, _], _, _ => kernel_rfl
  | [_, _, _], _, _ => kernel_rfl
  | [_, _, _, _], _, _ => kernel_rfl
  | [_, _, _, _, _], _, _ => kernel_rfl
  | [_, _, _, _, _, _], _, _ => kernel_rfl
  | [_, _, _, _, _, _, _], _, _ => kernel_rfl
  | [_, _, _, _, _, _, _, _], _, _ => kernel_rfl
  | [_, _, _, _, _, _, _, _, _], _, _ => kernel_rfl
  | [_, _, _, _, _, _, _, _, _, _], _, _ => kernel_rfl
  | [_, _, _, _, _, _, _, _, _, _, _], _, _ => kernel_rfl
  | [_, _, _, _, _, _, _, _, _, _, _, _], _, _ => kernel_rfl
theorem pa_unf {T : Int → Int → Int} {k : Nat} {xs : List Int} {i : Nat} (h : 2 ≤ xs.length) : lpathG T (k + 1) xs i = if i < cutN xs.length then lpathG T k (xs.take (cutN xs.length)) i ++ [(false, ltreeG T 5 (xs.drop (cutN xs.length)))]
      else lpathG T k (xs.drop (cutN xs.length)) (i - cutN xs.length) ++ [(true, ltreeG T 5 (xs.take (cutN xs.length)))] := by
  match xs, h with
  | _ :: _ :: _, _ => rfl
theorem cut_half {n k : Nat} (h : 2 ≤ n) (h1 : n ≤ 2 * k) (h2 : n ≤ 12) (hk : k = 1 ∨ k = 2 ∨ k = 4 ∨ k = 8) : cutN n ≤ k ∧ n - cutN n ≤ k := by
  unfold cutN
  rcases hk with rfl | rfl | rfl | rfl <;> (repeat' split) <;> omega
theorem pa_fuel {T : Int → Int → Int} {k m : Nat} (hm : m = 1 ∨ m = 2 ∨ m = 4 ∨ m = 8) (ih : ∀ (xs : List Int) (i : Nat), 1 ≤ xs.length → xs.length ≤ m → lpathG T k xs i = lpathG T (k + 1) xs i) (xs : List Int) (i : Nat) (h1 : 1 ≤ xs.length) (h2 : xs.length ≤ 2 * m) (h3 : xs.length ≤ 12) : lpathG T (k + 1) xs i = lpathG T (k + 2) xs i := by
  by_cases h : xs.length = 1
  · obtain ⟨x, rfl⟩ := List.length_eq_one_iff.mp h; rfl
  · have h' : 2 ≤ xs.length := by omega
    have c := cutN_lt h'
    have c2 := cut_half h' h2 h3 hm
    rw [pa_unf h', pa_unf h', ih (xs.take (cutN xs.length)) i (by rw [List.length_take]; omega) (by rw [List.length_take]; omega), ih (xs.drop (cutN xs.length)) _ (by rw [List.length_drop]; omega) (by rw [List.length_drop]; omega)]
theorem pa_moreG {T : Int → Int → Int} {xs : List Int} {i : Nat} (h : 2 ≤ xs.length) (h2 : xs.length ≤ 12) : lpathG T 5 xs i = if i < cutN xs.length then lpathG T 5 (xs.take (cutN xs.length)) i ++ [(false, ltreeG T 5 (xs.drop (cutN xs.length)))]
      else lpathG T 5 (xs.drop (cutN xs.length)) (i - cutN xs.length) ++ [(true, ltreeG T 5 (xs.take (cutN xs.length)))] := by
  have f1 : ∀ (xs : List Int) (i : Nat), 1 ≤ xs.length → xs.length ≤ 1 → lpathG T 1 xs i = lpathG T 2 xs i := fun xs i a b => by
    obtain ⟨x, rfl⟩ := List.length_eq_one_iff.mp (show xs.length = 1 by omega); rfl
  have f2 : ∀ (xs : List Int) (i : Nat), 1 ≤ xs.length → xs.length ≤ 2 → lpathG T 2 xs i = lpathG T 3 xs i := fun xs i a b => pa_fuel (.inl rfl) f1 xs i a (by omega) (by omega)
  have f3 : ∀ (xs : List Int) (i : Nat), 1 ≤ xs.length → xs.length ≤ 4 → lpathG T 3 xs i = lpathG T 4 xs i := fun xs i a b => pa_fuel (.inr (.inl rfl)) f2 xs i a (by omega) (by omega)
  have f4 : ∀ (xs : List Int) (i : Nat), 1 ≤ xs.length → xs.length ≤ 8 → lpathG T 4 xs i = lpathG T 5 xs i := fun xs i a b => pa_fuel (.inr (.inr (.inl rfl))) f3 xs i a (by omega) (by omega)
  have c := cutN_lt h
  have c2 := cut_half (k := 8) h (by omega) h2 (.inr (.inr (.inr rfl)))
  rw [pa_unf h, f4 (xs.take (cutN xs.length)) i (by rw [List.length_take]; omega) (by rw [List.length_take]; omega), f4 (xs.drop (cutN xs.length)) _ (by rw [List.length_drop]; omega) (by rw [List.length_drop]; omega)]
theorem tr_more {xs : List Int} (h : 2 ≤ xs.length) (h2 : xs.length ≤ 12) : tr xs = TI (tr (xs.take (cutN xs.length))) (tr (xs.drop (cutN xs.length))) := tr_moreG h h2
theorem pa_more {xs : List Int} {i : Nat} (h : 2 ≤ xs.length) (h2 : xs.length ≤ 12) : pa xs i = if i < cutN xs.length then pa (xs.take (cutN xs.length)) i ++ [(false, tr (xs.drop (cutN xs.length)))]
      else pa (xs.drop (cutN xs.length)) (i - cutN xs.length) ++ [(true, tr (xs.take (cutN xs.length)))] := pa_moreG h h2
theorem cut_len {xs : List Int} (h : 2 ≤ xs.length) : (xs.take (cutN xs.length)).length = cutN xs.length ∧ (xs.drop (cutN xs.length)).length = xs.length - cutN xs.length := by
  have := cutN_lt h
  rw [List.length_take, List.length_drop]; omega
def climb (h : Int) (p : List (Bool × Int)) : Int := p.foldl (fun here s => if s.1 then TI s.2 here else TI here s.2) h
/-- induction over both halves -/
theorem halves {P : List Int → Prop} (one : ∀ x, P [x]) (more : ∀ xs : List Int, 2 ≤ xs.length → xs.length ≤ 12 → P (xs.take (cutN xs.length)) → P (xs.drop (cutN xs.length)) → P xs) : ∀ (n : Nat) (xs : List Int), xs.length = n → 1 ≤ n → n ≤ 12 → P xs := by
  intro n
  induction n using Nat.strongRecOn with
  | ind n ih =>
    intro xs e h1 h2
    by_cases h : n = 1
    · obtain ⟨x, rfl⟩ := one_of (e.trans h); exact one x
    · have h2' : 2 ≤ xs.length := by omega
      have c := cutN_lt h2'
      obtain ⟨a, b⟩ := cut_len h2'
      exact more xs h2' (by omega) (ih _ (by omega) _ a (by omega) (by omega)) (ih _ (by omega) _ b (by omega) (by omega))
theorem tr_b {xs : List Int} (h1 : 1 ≤ xs.length) (h2 : xs.length ≤ 12) : (∀ x ∈ xs, inB x) → inB (tr xs) :=
  halves (P := fun xs => (∀ x ∈ xs, inB x) → inB (tr xs)) (fun x h => h x List.mem_cons_self) (fun xs a b _ _ _ => by rw [tr_more a b]; exact TI_b _ _) _ xs rfl h1 h2
theorem pa_b {xs : List Int} (h1 : 1 ≤ xs.length) (h2 : xs.length ≤ 12) : (∀ x ∈ xs, inB x) → ∀ i s, s ∈ pa xs i → inB s.2 :=
  halves (P := fun xs => (∀ x ∈ xs, inB x) → ∀ i s, s ∈ pa xs i → inB s.2) (fun x _ i s hs => by cases hs) (fun xs a b p q h i s hs => by
    have c := cutN_lt a
    obtain ⟨l1, l2⟩ := cut_len a
    rw [pa_more a b] at hs
    have ht : ∀ x ∈ xs.take (cutN xs.length), inB x := fun x hx => h x (List.mem_of_mem_take hx)
    have hd : ∀ x ∈ xs.drop (cutN xs.length), inB x := fun x hx => h x (List.mem_of_mem_drop hx)
    split at hs
    · rcases List.mem_append.mp hs with hs | hs
      · exact p ht _ _ hs
      · cases List.mem_singleton.mp hs
        exact tr_b (by omega) (by omega) hd
    · rcases List.mem_append.mp hs with hs | hs
      · exact q hd _ _ hs
      · cases List.mem_singleton.mp hs
        exact tr_b (by omega) (by omega) ht) _ xs rfl h1 h2
/-- the path leads up -/
theorem climb_pa {xs : List Int} (h1 : 1 ≤ xs.length) (h2 : xs.length ≤ 12) : ∀ (i : Nat) (x : Int), xs[i]? = some x → climb x (pa xs i) = tr xs :=
  halves (P := fun xs => ∀ (i : Nat) (x : Int), xs[i]? = some x → climb x (pa xs i) = tr xs) (fun y i x h => by
    cases i with
    | zero => cases h; rfl
    | succ i => cases h) (fun xs a b p q i x h => by
    have c := cutN_lt a
    obtain ⟨l1, l2⟩ := cut_len a
    rw [pa_more a b, tr_more a b]
    split
    · rename_i hi
      unfold climb
      rw [List.foldl_append]
      have e := p i x (by rw [List.getElem?_take, if_pos hi]; exact h)
      unfold climb at e
      rw [e]; rfl
    · rename_i hi
      unfold climb
      rw [List.foldl_append]
      have e := q (i - cutN xs.length) x (by rw [List.getElem?_drop, show cutN xs.length + (i - cutN xs.length) = i by omega]; exact h)
      unfold climb at e
      rw [e]; rfl) _ xs rfl h1 h2
/-- the own path does not change -/
theorem pa_set {xs : List Int} (h1 : 1 ≤ xs.length) (h2 : xs.length ≤ 12) : ∀ (i : Nat) (v : Int), i < xs.length → pa (xs.set i v) i = pa xs i :=
  halves (P := fun xs => ∀ (i : Nat) (v : Int), i < xs.length → pa (xs.set i v) i = pa xs i) (fun y i v h => by
    cases i with
    | zero => rfl
    | succ i => cases h; contradiction) (fun xs a b p q i v h => by
    have c := cutN_lt a
    obtain ⟨l1, l2⟩ := cut_len a
    have ls : (xs.set i v).length = xs.length := List.length_set
    rw [pa_more a b, pa_more (by omega) (by omega), ls]
    split
    · rename_i hi
      rw [List.take_set, List.drop_set, if_pos hi, p i v (by omega)]
    · rename_i hi
      rw [List.take_set, List.drop_set, if_neg hi, q _ v (by omega), List.set_eq_of_length_le (by omega)]) _ xs rfl h1 h2
/-- alike but for one place at most -/
def near (p q : List (Bool × Int)) : Prop := p.length = q.length ∧ ∃ k, ∀ j : Nat, (p[j]?).map Prod.fst = (q[j]?).map Prod.fst ∧ (j ≠ k → p[j]? = q[j]?)
theorem near_refl (p : List (Bool × Int)) : near p p := ⟨rfl, 0, fun j => ⟨rfl, fun _ => rfl⟩⟩
theorem near_app {p q : List (Bool × Int)} (h : near p q) (r : List (Bool × Int)) : near (p ++ r) (q ++ r) := by
  obtain ⟨l, k, h⟩ := h
  refine ⟨by rw [List.length_append, List.length_append, l], k, fun j => ?_⟩
  rw [List.getElem?_append, List.getElem?_append, l]
  split
  · exact h j
  · exact ⟨rfl, fun _ => rfl⟩
theorem near_last (p : List (Bool × Int)) (b : Bool) (x y : Int) : near (p ++ [(b, x)]) (p ++ [(b, y)]) := by
  refine ⟨by simp, p.length, fun j => ?_⟩
  rw [List.getElem?_append, List.getElem?_append]
  split
  · exact ⟨rfl, fun _ => rfl⟩
  · by_cases e : j = p.length
    · subst e; rw [Nat.sub_self]; exact ⟨rfl, fun h => absurd rfl h⟩
    · have : 1 ≤ j - p.length := by omega
      rw [List.getElem?_eq_none (by simp; omega), List.getElem?_eq_none (by simp; omega)]
      exact ⟨rfl, fun _ => rfl⟩
theorem pa_near {xs : List Int} (h1 : 1 ≤ xs.length) (h2 : xs.length ≤ 12) : ∀ (i j : Nat) (v : Int), i < xs.length → near (pa xs j) (pa (xs.set i v) j) :=
  halves (P := fun xs => ∀ (i j : Nat) (v : Int), i < xs.length → near (pa xs j) (pa (xs.set i v) j)) (fun y i j v h => by
    cases i with
    | zero => exact near_refl _
    | succ i => cases h; contradiction) (fun xs a b p q i j v h => by
    have c := cutN_lt a
    obtain ⟨l1, l2⟩ := cut_len a
    have ls : (xs.set i v).length = xs.length := List.length_set
    rw [pa_more a b, pa_more (xs := xs.set i v) (by omega) (by omega), ls]
    split
    · rename_i hj
      rw [List.take_set, List.drop_set]
      split
      · exact near_app (p i j v (by omega)) _
      · rw [List.set_eq_of_length_le (by omega)]; exact near_last _ _ _ _
    · rename_i hj
      rw [List.take_set, List.drop_set]
      split
      · exact near_last _ _ _ _
      · rw [List.set_eq_of_length_le (l := xs.take (cutN xs.length)) (by omega)]; exact near_app (q _ _ v (by omega)) _) _ xs rfl h1 h2
/-! ### what the defs compute -/
theorem E_judge_path (mark number : Int) (p : List (Bool × Int)) (hp : ∀ s ∈ p, inB s.2) : m_judge_path [.int mark, .int number, .tup (p.map encS)] = some (.bl (climb (hI number) p == mark)) := by
  obtain ⟨Γ', e, s4, rfl⟩ := for_foldm (g := gN 4) (b := (sSq (sIf (mtOr (mtNot (mTru (mUn (dIsi .tuple) (mVarB 4)))) (mtOr (mTB (mBin dNe (mCall dLen (mCons (mVarB 4) mNil)) (mC (.int 2)))) (mtOr (mTB (mBin dNotIn (mBin dIx (mVarB 4) (mC (.int 0))) (mTup (mCons (mC (.str "left")) (mCons (mC (.str "right")) mNil))))) (mtNot (mTru (mCall n_is_mark (mCons (mBin dIx (mVarB 4) (mC (.int 1))) mNil))))))) (sRt (mC (.bl false))) sNx) (sSet 3 (xV (mIf (mTB (mBin dEq (mBin dIx (mVarB 4) (mC (.int 0))) (mC (.str "left")))) (mCall n_mark_of_two (mCons (mBin dIx (mVarB 4) (mC (.int 1))) (mCons (mVar 3) mNil))) (mCall n_mark_of_two (mCons (mVar 3) (mCons (mBin dIx (mVarB 4) (mC (.int 1))) mNil)))))))) encS (fun here s => if s.1 then TI s.2 here else TI here s.2) (fun a Γ => ∃ s4, Γ = [.val (.int mark), .val (.int number), .val (.tup (p.map encS)), .val (.int a), s4]) p
    (fun a s hs Γ ⟨s4, e⟩ => by
      subst e
      obtain ⟨h0, h1⟩ := hp s hs
      have hm : n_is_mark [.int s.2] = some (.bl true) := by
        show some (D.bl (decide (0 ≤ s.2) && decide (s.2 < 256))) = _
        rw [decide_eq_true h0, decide_eq_true h1]; rfl
      refine ⟨[.val (.int mark), .val (.int number), .val (.tup (p.map encS)), .val (.int (if s.1 then TI s.2 a else TI a s.2)), .val (encS s)], ?_, _, rfl⟩
      obtain ⟨b, m⟩ := s
      refine Eq.trans (sSq_nx (Γ := [.val (.int mark), .val (.int number), .val (.tup (p.map encS)), .val (.int a), .val (encS (b, m))]) (Γ1 := [.val (.int mark), .val (.int number), .val (.tup (p.map encS)), .val (.int a), .val (encS (b, m))]) ((sIf_f ?_).trans rfl)) ?_
      · refine Eq.trans (b := ((n_is_mark [.int m]).bind truth).bind fun t => some (!t)) ?_ (by rw [hm]; rfl)
        cases b <;> kernel_rfl
      · cases b <;> kernel_rfl) (hI number) [.val (.int mark), .val (.int number), .val (.tup (p.map encS)), .val (.int (hI number)), .emp] ⟨_, rfl⟩
  refine run_rt (Γ1 := [.val (.int mark), .val (.int number), .val (.tup (p.map encS)), .val (.int (climb (hI number) p)), s4]) rfl ?_
  refine (sSq_nx (Γ1 := [.val (.int mark), .val (.int number), .val (.tup (p.map encS)), .emp, .emp]) rfl).trans ((sSq_nx (Γ1 := [.val (.int mark), .val (.int number), .val (.tup (p.map encS)), .val (.int (hI number)), .emp]) ?_).trans ((sSq_nx ((sFor_of rfl).trans e)).trans ?_))
  · unfold hI; rfl
  · rfl
theorem ok12_of {n : Nat} (h1 : 1 ≤ n) (h2 : n ≤ 12) : ok12 n = true := by
  unfold ok12; rw [decide_eq_true h1, decide_eq_true h2]; rfl
theorem E_tree_mark {xs : List Int} (h1 : 1 ≤ xs.length) (h2 : xs.length ≤ 12) : n_tree_mark [.tup (xs.map .int)] = some (.int (tr (xs.map hI))) := by
  show (intsOf (xs.map .int)).bind _ = _
  rw [intsOf_map, Option.bind_some, if_pos (ok12_of h1 h2)]; rfl
theorem E_law_tree {xs : List Int} (h1 : 1 ≤ xs.length) (h2 : xs.length ≤ 12) : n__law_tree [.tup (xs.map .int)] = some (.int (tr xs)) := by
  show (intsOf (xs.map .int)).bind _ = _
  rw [intsOf_map, Option.bind_some, if_pos (ok12_of h1 h2)]; rfl
theorem okI_of {xs : List Int} {i : Nat} (h2 : xs.length ≤ 12) (h3 : i < xs.length) : okI xs (i : Int) = true := by
  unfold okI
  rw [ok12_of (by omega) h2, decide_eq_true (by omega), decide_eq_true (by omega)]; rfl
theorem E_tree_path {xs : List Int} {i : Nat} (h2 : xs.length ≤ 12) (h3 : i < xs.length) : n_tree_path [.tup (xs.map .int), .int i] = some (.tup ((pa (xs.map hI) i).map encS)) := by
  show (intsOf (xs.map .int)).bind _ = _
  rw [intsOf_map, Option.bind_some, if_pos (okI_of h2 h3)]; rfl
theorem E_law_path {xs : List Int} {i : Nat} (h2 : xs.length ≤ 12) (h3 : i < xs.length) : n__law_path [.tup (xs.map .int), .int i] = some (.tup ((pa xs i).map encS)) := by
  show (intsOf (xs.map .int)).bind _ = _
  rw [intsOf_map, Option.bind_some, if_pos (okI_of h2 h3)]; rfl
theorem E_cut : ∀ n : Nat, n ≤ 12 → m__law_cut [.int n] = some (.int (cutN n)) := by
  intro n h
  have : ∀ n : Nat, n ≤ 12 → (m__law_cut [.int n] = some (.int (cutN n))) := by
    intro n h
    rcases (show n = 0 ∨ n = 1 ∨ n = 2 ∨ n = 3 ∨ n = 4 ∨ n = 5 ∨ n = 6 ∨ n = 7 ∨ n = 8 ∨ n = 9 ∨ n = 10 ∨ n = 11 ∨ n = 12 by omega) with rfl | rfl | rfl | rfl | rfl | rfl | rfl | rfl | rfl | rfl | rfl | rfl | rfl <;> kernel_rfl
  exact this n h
theorem E_mix (xs : List Int) : n_mixed_row [.tup (xs.map .int)] = some (.int (mixR xs)) := by
  show (intsOf (xs.map .int)).map _ = _
  rw [intsOf_map]; rfl
theorem E_singles (xs : List Int) (h : xs.length ≤ 12) : m__law_singles [.tup (xs.map .int)] = some (.tup ((xs.map hI).map .int)) := by
  refine run_q rfl ?_
  unfold b__law_singles
  refine q_ret (ev1 (d := .lst ((xs.map hI).map .int)) ?_ rfl)
  refine (mLc_of (ys := (xs.map hI).map .int) (xs := xs.map .int) rfl ?_ ?_).trans rfl
  · rw [List.map_map]
    refine lcL_map D.int (D.int ∘ hI) xs fun x _ => ⟨[.val (.tup (xs.map .int)), .val (.int x)], rfl, rfl, ?_⟩
    refine ev1 (d := .tup ([0, x].map .int)) rfl ((E_mix [0, x]).trans ?_)
    unfold hI; rfl
  · rw [List.length_map, List.length_map]; unfold LIM; omega
theorem pa_len {xs : List Int} (h1 : 1 ≤ xs.length) (h2 : xs.length ≤ 12) : ∀ i, (pa xs i).length ≤ xs.length :=
  halves (P := fun xs => ∀ i, (pa xs i).length ≤ xs.length) (fun x i => Nat.zero_le _) (fun xs a b p q i => by
    have c := cutN_lt a
    obtain ⟨l1, l2⟩ := cut_len a
    rw [pa_more a b]
    split
    · have := p i
      rw [List.length_append, List.length_singleton]; omega
    · have := q (i - cutN xs.length)
      rw [List.length_append, List.length_singleton]; omega) _ xs rfl h1 h2
theorem okS (n : Nat) (s : Bool × Int) : D.okL (n + 2) (encS s) = true := by
  obtain ⟨b, m⟩ := s
  refine okL_tup (show 2 ≤ 1000000 by decide) fun x hx => ?_
  rcases List.mem_cons.mp hx with rfl | hx
  · cases b
    · show PyData.strOk ("right" : Str) = true; decide +kernel
    · show PyData.strOk ("left" : Str) = true; decide +kernel
  · rw [List.mem_singleton.mp hx]; exact okL_int _ _
theorem okP (n : Nat) {p : List (Bool × Int)} (h : p.length ≤ 1000000) : D.okL (n + 3) (.tup (p.map encS)) = true := okL_tup (by rw [List.length_map]; exact h) fun x hx => by
  obtain ⟨s, _, rfl⟩ := List.mem_map.mp hx; exact okS n s
theorem sing_b (xs : List Int) : ∀ x ∈ xs.map hI, inB x := fun x hx => by
  obtain ⟨y, _, rfl⟩ := List.mem_map.mp hx; exact hI_b y
/-- a range's items -/
theorem rng_len {m : ME} {Γ : En} {n : Nat} (h : m Γ = some (.int n)) (hn : n ≤ 1000000) : mRng1 m Γ = some ((List.range n).map fun i : Nat => D.int i) := by
  unfold mRng1
  rw [h]
  show (if okR 0 (n : Int) then some (rngD 0 n) else none) = _
  rw [okR_nat hn, if_pos rfl, rngD_eq]
theorem E_tree_right (xs : List Int) (h1 : 1 ≤ xs.length) (h2 : xs.length ≤ 12) : m__law_tree_right [.tup (xs.map .int)] = some (.bl true) := by
  have hs : (xs.map hI).length = xs.length := List.length_map _
  generalize hss : xs.map hI = ss at hs
  have bs : ∀ x ∈ ss, inB x := by rw [← hss]; exact sing_b xs
  have eS := E_singles xs h2
  have eM := E_tree_mark h1 h2
  rw [hss] at eS eM
  have eT : n__law_tree [.tup (ss.map .int)] = some (.int (tr ss)) := E_law_tree (by omega) (by omega)
  -- the part of two halves
  have hb : ∃ s3 s4 s5, (sIf (mTB (mBin dGt (mCall dLen (mCons (mVarB 0) mNil)) (mC (.int 1)))) (sSq (sSet 3 (xV (mCall m__law_cut (mCons (mCall dLen (mCons (mVarB 0) mNil)) mNil)))) (sSq (sPar 4 5 (xV (mCall n_tree_mark (mCons (mSl (mVarB 0) mONone (mOSome (mVarB 3))) mNil))) (xV (mCall n_tree_mark (mCons (mSl (mVarB 0) (mOSome (mVarB 3)) mONone) mNil)))) (sSq (sIf (mtNot (mTru (mCall (m__law_like 10) (mCons (mTup (mCons (mVar 4) (mCons (mVar 5) mNil))) (mCons (mTup (mCons (mCall n__law_tree (mCons (mSl (mVarB 1) mONone (mOSome (mVarB 3))) mNil)) (mCons (mCall n__law_tree (mCons (mSl (mVarB 1) (mOSome (mVarB 3)) mONone) mNil)) mNil))) mNil))))) (sRt (mC (.bl false))) sNx) (sIf (mtNot (mTru (mCall (m__law_like 10) (mCons (mCall n_mixed_row (mCons (mTup (mCons (mC (.int 1)) (mCons (mBin dDiv (mVarB 4) (mC (.int 16))) (mCons (mBin dMod (mCall dInt1 (mCons (mVarB 4) mNil)) (mC (.int 16))) (mCons (mBin dDiv (mVarB 5) (mC (.int 16))) (mCons (mBin dMod (mCall dInt1 (mCons (mVarB 5) mNil)) (mC (.int 16))) mNil)))))) mNil)) (mCons (mVar 2) mNil))))) (sRt (mC (.bl false))) sNx)))) sNx) [.val (.tup (xs.map .int)), .val (.tup (ss.map .int)), .val (.int (tr ss)), .emp, .emp, .emp, .emp, .emp] = some (.nx, [Slot.val (.tup (xs.map .int)), .val (.tup (ss.map .int)), .val (.int (tr ss)), s3, s4, s5, .emp, .emp]) := by
    by_cases h : xs.length = 1
    · obtain ⟨x, rfl⟩ := one_of h
      exact ⟨_, _, _, rfl⟩
    · have g2 : 2 ≤ ss.length := by omega
      have c := cutN_lt g2
      obtain ⟨l1, l2⟩ := cut_len g2
      have el : n__law_tree [.tup ((ss.take (cutN ss.length)).map .int)] = some (.int (tr (ss.take (cutN ss.length)))) := E_law_tree (by omega) (by omega)
      have er : n__law_tree [.tup ((ss.drop (cutN ss.length)).map .int)] = some (.int (tr (ss.drop (cutN ss.length)))) := E_law_tree (by omega) (by omega)
      have ml : n_tree_mark [.tup ((xs.take (cutN ss.length)).map .int)] = some (.int (tr (ss.take (cutN ss.length)))) := by
        rw [E_tree_mark (by rw [List.length_take]; omega) (by rw [List.length_take]; omega), List.map_take, hss]
      have mr : n_tree_mark [.tup ((xs.drop (cutN ss.length)).map .int)] = some (.int (tr (ss.drop (cutN ss.length)))) := by
        rw [E_tree_mark (by rw [List.length_drop]; omega) (by rw [List.length_drop]; omega), List.map_drop, hss]
      have e0 := tr_more g2 (by omega)
      generalize tr (ss.take (cutN ss.length)) = L at *
      generalize tr (ss.drop (cutN ss.length)) = R at *
      refine ⟨.val (.int (cutN ss.length)), .val (.int L), .val (.int R), ?_⟩
      have hc : (mCall m__law_cut (mCons (mCall dLen (mCons (mVarB 0) mNil)) mNil)) [.val (.tup (xs.map .int)), .val (.tup (ss.map .int)), .val (.int (tr ss)), .emp, .emp, .emp, .emp, .emp] = some (.int (cutN ss.length)) := by
        refine ev1 (d := .int ss.length) ?_ (E_cut _ (by omega))
        show some (D.int ((xs.map D.int).length : Int)) = _
        rw [List.length_map, hs]
      refine (sIf_t ?_).trans ?_
      · show some (decide ((1 : Int) < ((xs.map D.int).length : Int))) = _
        rw [List.length_map, decide_eq_true (by omega)]
      refine (sSq_nx (sSet_v hc)).trans ?_
      refine (sSq_nx (Γ1 := [.val (.tup (xs.map .int)), .val (.tup (ss.map .int)), .val (.int (tr ss)), .val (.int (cutN ss.length)), .val (.int L), .val (.int R), .emp, .emp]) ?_).trans ?_
      · unfold sPar xV
        rw [ev1 (sl_take (xs := xs.map .int) (c := cutN ss.length) rfl rfl) (by rw [← List.map_take]; exact ml), ev1 (sl_drop (xs := xs.map .int) (c := cutN ss.length) rfl rfl) (by rw [← List.map_drop]; exact mr)]
        rfl
      refine (sSq_nx ((sIf_f (not_like (x := .tup [.int L, .int R]) (y := .tup [.int L, .int R]) rfl ?_ rfl rfl)).trans rfl)).trans ?_
      · show (mCons _ _ _).bind _ = _
        rw [mCons_of (ev1 (sl_take (xs := ss.map .int) (c := cutN ss.length) rfl rfl) (by rw [← List.map_take]; exact el)) (mCons_of (ev1 (sl_drop (xs := ss.map .int) (c := cutN ss.length) rfl rfl) (by rw [← List.map_drop]; exact er)) rfl)]
        rfl
      refine (sIf_f (not_like (x := .int (TI L R)) (y := .int (tr ss)) (ev1 (d := .tup ([1, L / 16, L % 16, R / 16, R % 16].map .int)) rfl ((E_mix _).trans ?_)) rfl (by rw [e0]) rfl)).trans rfl
      unfold TI; rfl
  obtain ⟨s3, s4, s5, hb⟩ := hb
  obtain ⟨Γ', e, s6, s7, rfl⟩ := for_foldm (g := gN 6) (b := (sSq (sSet 7 (xV (mCall n_tree_path (mCons (mVar 0) (mCons (mVar 6) mNil))))) (sSq (sIf (mtOr (mtNot (mTru (mCall (m__law_like 10) (mCons (mVar 7) (mCons (mCall n__law_path (mCons (mVar 1) (mCons (mVar 6) mNil))) mNil))))) (mTB (mBin dIsNot (mCall m_judge_path (mCons (mVar 2) (mCons (mBin dIx (mVarB 0) (mVarB 6)) (mCons (mVar 7) mNil)))) (mC (.bl true))))) (sRt (mC (.bl false))) sNx) (sIf (mTB (mBin dIsNot (mCall m_judge_path (mCons (mBin dMod (mCall dInt1 (mCons (mBin dAdd (mBin dAdd (mVarB 2) (mC (.int 1))) (mVarB 6)) mNil)) (mC (.int 256))) (mCons (mBin dIx (mVarB 0) (mVarB 6)) (mCons (mVar 7) mNil)))) (mC (.bl false)))) (sRt (mC (.bl false))) sNx)))) (fun i : Nat => D.int i) (fun (u : Unit) _ => u) (fun u Γ => ∃ s6 s7, Γ = [.val (.tup (xs.map .int)), .val (.tup (ss.map .int)), .val (.int (tr ss)), s3, s4, s5, s6, s7]) (List.range ss.length)
    (fun u i hi Γ ⟨s6, s7, e⟩ => by
      subst e
      have hi := List.mem_range.mp hi
      have p1 : n_tree_path [.tup (xs.map .int), .int i] = some (.tup ((pa ss i).map encS)) := by rw [E_tree_path h2 (by omega), hss]
      have p2 : n__law_path [.tup (ss.map .int), .int i] = some (.tup ((pa ss i).map encS)) := E_law_path (by omega) hi
      have pl : (pa ss i).length ≤ 1000000 := by have := pa_len (xs := ss) (by omega) (by omega) i; omega
      have pb : ∀ s ∈ pa ss i, inB s.2 := pa_b (by omega) (by omega) bs i
      obtain ⟨x0, hx⟩ : ∃ x0, xs[i]? = some x0 := ⟨_, List.getElem?_eq_getElem (by omega)⟩
      have hc : climb (hI x0) (pa ss i) = tr ss := climb_pa (by omega) (by omega) i _ (by rw [← hss, List.getElem?_map, hx]; rfl)
      have tb := tr_b (by omega) (by omega) bs
      refine ⟨[.val (.tup (xs.map .int)), .val (.tup (ss.map .int)), .val (.int (tr ss)), s3, s4, s5, .val (.int i), .val (.tup ((pa ss i).map encS))], ?_, _, _, rfl⟩
      refine (sSq_nx (Γ := [.val (.tup (xs.map .int)), .val (.tup (ss.map .int)), .val (.int (tr ss)), s3, s4, s5, .val (.int i), s7]) (sSet_v (ev2 rfl rfl p1))).trans ?_
      have hix : mBin dIx (mVarB 0) (mVarB 6) [.val (.tup (xs.map .int)), .val (.tup (ss.map .int)), .val (.int (tr ss)), s3, s4, s5, .val (.int i), .val (.tup ((pa ss i).map encS))] = some (.int x0) := ix_nat (xs := xs.map .int) (i := i) rfl rfl (by rw [List.getElem?_map, hx]; rfl)
      refine (sSq_nx ((sIf_f (or_f (not_like rfl (ev2 rfl rfl p2) rfl (okP 6 pl)) (isnot_f (ev3 (d := .int (tr ss)) (d2 := .int x0) (d3 := .tup ((pa ss i).map encS)) rfl hix rfl ?_)))).trans rfl)).trans ((sIf_f (isnot_f (ev3 (d := .int ((tr ss + 1 + i) % 256)) (d2 := .int x0) (d3 := .tup ((pa ss i).map encS)) rfl hix rfl ?_))).trans rfl)
      · rw [E_judge_path _ _ _ pb, hc, beq_self_eq_true]
      · rw [E_judge_path _ _ _ pb, hc]
        have : (tr ss == (tr ss + 1 + (i : Int)) % 256) = false := by
          rw [beq_eq_false_iff_ne]
          unfold inB at tb
          omega
        rw [this]) () [.val (.tup (xs.map .int)), .val (.tup (ss.map .int)), .val (.int (tr ss)), s3, s4, s5, .emp, .emp] ⟨_, _, rfl⟩
  refine run_q rfl ?_
  unfold b__law_tree_right
  refine q_set (Γ := [.val (.tup (xs.map .int)), .emp, .emp, .emp, .emp, .emp, .emp, .emp]) (ev1 rfl eS) (q_set (ev1 rfl eT) (q_skip (not_like (ev1 rfl eM) rfl rfl rfl) (q_nx hb (q_nx ((sFor_of (rng_len (n := ss.length) ?_ (by omega))).trans e) (q_ret rfl)))))
  show some (D.int ((xs.map D.int).length : Int)) = _
  rw [List.length_map, hs]

theorem eqbS (s : Bool × Int) : D.eqb (encS s) (encS s) = true := by
  obtain ⟨b, m⟩ := s
  show ((_ == _) && ((m == m) && true)) = true
  rw [beq_self_eq_true, beq_self_eq_true]; rfl
theorem shpS (s : Bool × Int) : D.shp 8 (encS s) = true := by
  obtain ⟨b, m⟩ := s
  cases b <;> kernel_rfl
theorem neS (s t : Bool × Int) : dNe (encS s) (encS t) = some (.bl (!D.eqb (encS s) (encS t))) := by
  unfold dNe
  rw [shpS, shpS]; rfl
theorem set_split (xs : List Int) (p : Nat) (v : Int) (h : p < xs.length) : xs.set p v = xs.take p ++ [v] ++ xs.drop (p + 1) := by
  rw [List.set_eq_take_append_cons_drop, if_pos h, List.append_assoc]; rfl
/-- the places at which two paths differ -/
def us (p q : List (Bool × Int)) : List Nat := (List.range p.length).filter fun k => !D.eqb (encS (p.getD k (true, 0))) (encS (q.getD k (true, 0)))
theorem filter_one {n k : Nat} {f : Nat → Bool} (h : ∀ j, j ≠ k → f j = false) : ((List.range n).filter f).length ≤ 1 := by
  have : ∀ l : List Nat, l.Nodup → (l.filter f).length ≤ 1 := by
    intro l
    induction l with
    | nil => intro _; exact Nat.zero_le _
    | cons x l ih =>
      intro hn
      obtain ⟨h1, h2⟩ := List.nodup_cons.mp hn
      by_cases e : x = k
      · have : l.filter f = [] := List.filter_eq_nil_iff.mpr fun y hy => by
          rw [h y (fun c => h1 (by rw [e, ← c]; exact hy))]; exact Bool.false_ne_true
        rw [List.filter_cons]
        split <;> rw [this] <;> simp
      · rw [List.filter_cons_of_neg (by rw [h x e]; exact Bool.false_ne_true)]
        exact ih h2
  exact this _ List.nodup_range
theorem us_le {p q : List (Bool × Int)} (h : near p q) : (us p q).length ≤ 1 := by
  obtain ⟨_, k, hk⟩ := h
  refine filter_one (k := k) fun j hj => ?_
  have e := (hk j).2 hj
  rw [List.getD_eq_getElem?_getD, List.getD_eq_getElem?_getD, e, eqbS]; rfl
theorem E_edit_right (xs : List Int) (i0 : Nat) (v : Int) (h2 : xs.length ≤ 12) (h3 : i0 < xs.length) : m__law_edit_right [.tup (xs.map .int), .int i0, .int v] = some (.bl true) := by
  generalize hc : xs.set i0 v = cs
  have lc : cs.length = xs.length := by rw [← hc, List.length_set]
  generalize hss : xs.map hI = ss
  generalize hcc : cs.map hI = sc
  have ls : ss.length = xs.length := by rw [← hss, List.length_map]
  have lsc : sc.length = xs.length := by rw [← hcc, List.length_map, lc]
  have esc : sc = ss.set i0 (hI v) := by rw [← hcc, ← hc, ← hss, List.map_set]
  have bc : ∀ x ∈ sc, inB x := by rw [← hcc]; exact sing_b cs
  have M := E_tree_mark (xs := cs) (by omega) (by omega)
  have S := E_singles cs (by omega)
  rw [hcc] at M S
  have T : n__law_tree [.tup (sc.map .int)] = some (.int (tr sc)) := E_law_tree (by omega) (by omega)
  have tp : ∀ i, i < xs.length → n_tree_path [.tup (xs.map .int), .int i] = some (.tup ((pa ss i).map encS)) := fun i hi => by rw [E_tree_path h2 hi, hss]
  have tc : ∀ i, i < xs.length → n_tree_path [.tup (cs.map .int), .int i] = some (.tup ((pa sc i).map encS)) := fun i hi => by rw [E_tree_path (by omega) (by omega), hcc]
  have tl : ∀ i, i < xs.length → n__law_path [.tup (sc.map .int), .int i] = some (.tup ((pa sc i).map encS)) := fun i hi => E_law_path (by omega) (by omega)
  have own : pa sc i0 = pa ss i0 := by rw [esc]; exact pa_set (by omega) (by omega) i0 _ (by omega)
  have pl : ∀ i, (pa sc i).length ≤ 1000000 := fun i => by have := pa_len (xs := sc) (by omega) (by omega) i; omega
  have pb : ∀ i, ∀ s ∈ pa sc i, inB s.2 := fun i => pa_b (by omega) (by omega) bc i
  have nr : ∀ i, near (pa ss i) (pa sc i) := fun i => by rw [esc]; exact pa_near (by omega) (by omega) i0 i _ (by omega)
  have cl : ∀ i (x : Int), cs[i]? = some x → climb (hI x) (pa sc i) = tr sc := fun i x hx => climb_pa (by omega) (by omega) i _ (by rw [← hcc, List.getElem?_map, hx]; rfl)
  refine run_q rfl ?_
  unfold b__law_edit_right
  show (sSq _ _ [.val (.tup (xs.map .int)), .val (.int i0), .val (.int v), .emp, .emp, .emp, .emp, .emp, .emp, .emp, .emp]).map Prod.fst = _
  refine q_set (d := .tup (cs.map .int)) ?_ ?_
  · refine (add_tup (add_tup (sl_take (xs := xs.map .int) (c := i0) rfl rfl) (ys := [.int v]) rfl ?_) (sl_drop (xs := xs.map .int) (c := i0 + 1) rfl rfl) ?_).trans ?_
    · rw [List.length_take, List.length_map]; unfold LIM; simp; omega
    · rw [List.length_append, List.length_take, List.length_drop, List.length_map]; unfold LIM; simp; omega
    · rw [← hc, set_split _ _ _ h3, List.map_append, List.map_append, List.map_take, List.map_drop]; rfl
  refine q_par (ev1 rfl M) (ev2 rfl rfl (tp i0 h3)) ?_
  refine q_skip (or_f (not_like rfl (ev1 (ev1 rfl S) T) rfl rfl) (not_like (ev2 rfl rfl (tc i0 h3)) (y := .tup ((pa ss i0).map encS)) rfl (by rw [own]) (by rw [← own]; exact okP 6 (pl i0)))) ?_
  refine q_skip (isnot_f (ev3 (d := .int (tr sc)) (d2 := .int v) (d3 := .tup ((pa ss i0).map encS)) rfl rfl rfl ?_)) ?_
  · rw [← own, E_judge_path _ _ _ (pb i0), cl i0 v (by rw [← hc]; exact List.getElem?_set_self h3), beq_self_eq_true]
  refine q_for (en := fun i : Nat => D.int i) (f := fun (u : Unit) _ => u) (Em := fun u Γ => ∃ s6 s7 s8 s9 s10, Γ = [.val (.tup (xs.map .int)), .val (.int i0), .val (.int v), .val (.tup (cs.map .int)), .val (.int (tr sc)), .val (.tup ((pa ss i0).map encS)), s6, s7, s8, s9, s10]) (xs := List.range xs.length) (a := ())
    (rng_len (n := xs.length) ?_ (by omega)) ⟨_, _, _, _, _, rfl⟩ ?_ (fun Γ' ⟨s6, s7, s8, s9, s10, e⟩ => by subst e; exact q_ret rfl)
  · show some (D.int ((xs.map D.int).length : Int)) = _
    rw [List.length_map]
  intro u i hi Γ ⟨s6, s7, s8, s9, s10, e⟩
  subst e
  have hi := List.mem_range.mp hi
  generalize hp : pa ss i = p
  generalize hq : pa sc i = q
  have t1 := tp i hi
  have t2 := tc i hi
  have t3 := tl i hi
  have n1 := nr i
  have q1 := pl i
  have b1 := pb i
  have c1 := cl i
  rw [hp] at t1 n1
  rw [hq] at t2 t3 n1 q1 b1 c1
  have lpq := n1.1
  refine ⟨[.val (.tup (xs.map .int)), .val (.int i0), .val (.int v), .val (.tup (cs.map .int)), .val (.int (tr sc)), .val (.tup ((pa ss i0).map encS)), .val (.int i), .val (.tup (p.map encS)), .val (.tup (q.map encS)), .val (.lst ((us p q).map fun k : Nat => D.int k)), s10], ?_, _, _, _, _, _, rfl⟩
  refine (sSq_nx (Γ := [.val (.tup (xs.map .int)), .val (.int i0), .val (.int v), .val (.tup (cs.map .int)), .val (.int (tr sc)), .val (.tup ((pa ss i0).map encS)), .val (.int i), s7, s8, s9, s10]) (Γ1 := [.val (.tup (xs.map .int)), .val (.int i0), .val (.int v), .val (.tup (cs.map .int)), .val (.int (tr sc)), .val (.tup ((pa ss i0).map encS)), .val (.int i), .val (.tup (p.map encS)), .val (.tup (q.map encS)), s9, s10]) ?_).trans ?_
  · show (((mCons _ _ _).bind _).bind _) = _
    rw [mCons_of (ev2 rfl rfl t1) (mCons_of (ev2 rfl rfl t2) rfl)]
    rfl
  have lenp : (mCall dLen (mCons (mVarB 7) mNil)) [.val (.tup (xs.map .int)), .val (.int i0), .val (.int v), .val (.tup (cs.map .int)), .val (.int (tr sc)), .val (.tup ((pa ss i0).map encS)), .val (.int i), .val (.tup (p.map encS)), .val (.tup (q.map encS)), s9, s10] = some (.int p.length) := by
    show some (D.int ((p.map encS).length : Int)) = _
    rw [List.length_map]
  refine (sSq_nx ((sIf_f (or_f (not_like rfl (ev2 (ev1 rfl S) rfl t3) rfl (okP 6 q1)) ?_)).trans rfl)).trans ?_
  · show (some (!(((p.map encS).length : Int) == ((q.map encS).length : Int)))) = _
    rw [List.length_map, List.length_map, lpq, beq_self_eq_true]; rfl
  refine (sSq_nx (sSetF_of (mLc_of (ys := (us p q).map fun k : Nat => D.int k) (rng_len lenp (by omega)) (lcL_filter (fun k : Nat => D.int k) _ _ _ ?_) ?_))).trans ?_
  · intro k hk
    have hk := List.mem_range.mp hk
    refine ⟨[.val (.tup (xs.map .int)), .val (.int i0), .val (.int v), .val (.tup (cs.map .int)), .val (.int (tr sc)), .val (.tup ((pa ss i0).map encS)), .val (.int i), .val (.tup (p.map encS)), .val (.tup (q.map encS)), s9, .val (.int k)], rfl, ?_, fun _ => rfl⟩
    refine mTB_of ((mBin_of (ix_nat (xs := p.map encS) (i := k) (d := encS (p.getD k (true, 0))) rfl rfl ?_) (ix_nat (xs := q.map encS) (i := k) (d := encS (q.getD k (true, 0))) rfl rfl ?_)).trans (neS _ _))
    · rw [List.getElem?_map, List.getD_eq_getElem?_getD, List.getElem?_eq_getElem hk]; rfl
    · rw [List.getElem?_map, List.getD_eq_getElem?_getD, List.getElem?_eq_getElem (by omega)]; rfl
  · have := us_le n1
    rw [List.length_map]; unfold LIM; omega
  have u1 := us_le n1
  refine (sSq_nx ((sIf_f (or_f ?_ ?_)).trans rfl)).trans ?_
  · show some (decide ((1 : Int) < (((us p q).map fun k : Nat => D.int k).length : Int))) = _
    rw [List.length_map, decide_eq_false (by omega)]
  · refine tru_f (ev1 (d := .lst ((us p q).map fun _ => .bl false)) (mLc_of rfl (lcL_map (fun k : Nat => D.int k) _ _ ?_) ?_) ?_)
    · intro k hk
      have hk : k < p.length := List.mem_range.mp (List.mem_filter.mp hk).1
      have e1 : p[k]? = some (p.getD k (true, 0)) := by rw [List.getD_eq_getElem?_getD, List.getElem?_eq_getElem hk]; rfl
      have e2 : q[k]? = some (q.getD k (true, 0)) := by rw [List.getD_eq_getElem?_getD, List.getElem?_eq_getElem (by omega)]; rfl
      obtain ⟨_, _, hn⟩ := n1
      have e3 := (hn k).1
      rw [e1, e2] at e3
      have e3 : (p.getD k (true, 0)).1 = (q.getD k (true, 0)).1 := Option.some.inj e3
      refine ⟨[.val (.tup (xs.map .int)), .val (.int i0), .val (.int v), .val (.tup (cs.map .int)), .val (.int (tr sc)), .val (.tup ((pa ss i0).map encS)), .val (.int i), .val (.tup (p.map encS)), .val (.tup (q.map encS)), .val (.lst ((us p q).map fun k : Nat => D.int k)), .val (.int k)], rfl, rfl, ?_⟩
      generalize p.getD k (true, 0) = s at *
      generalize q.getD k (true, 0) = t at *
      refine (mBin_of ((mBin_of (ix_nat (xs := p.map encS) (i := k) (d := encS s) rfl rfl (by rw [List.getElem?_map, e1]; rfl)) rfl).trans (show _ = some (D.str (if s.1 then "left" else "right")) from rfl)) ((mBin_of (ix_nat (xs := q.map encS) (i := k) (d := encS t) rfl rfl (by rw [List.getElem?_map, e2]; rfl)) rfl).trans (show _ = some (D.str (if t.1 then "left" else "right")) from rfl))).trans ?_
      rw [e3]
      cases t.1 <;> kernel_rfl
    · rw [List.length_map]; unfold LIM; omega
    · show (blsOf ((us p q).map fun _ => D.bl false)).map _ = _
      rw [show ((us p q).map fun _ => D.bl false) = ((us p q).map fun _ => false).map D.bl by rw [List.map_map]; rfl, blsOf_map]
      show some (D.bl (((us p q).map fun _ => false).any id)) = _
      rw [show ((us p q).map fun _ => false).any id = false from List.any_eq_false.mpr fun b hb => by
        obtain ⟨_, _, rfl⟩ := List.mem_map.mp hb; exact Bool.false_ne_true]
  · refine (sIf_f ?_).trans rfl
    show ((some (!((i : Int) == (i0 : Int)))).bind fun t => if t then (mTB (mBin dIsNot _ (mC (.bl true)))) _ else some false) = _
    by_cases e : i = i0
    · rw [e, beq_self_eq_true]; rfl
    · rw [show ((i : Int) == (i0 : Int)) = false from beq_eq_false_iff_ne.mpr (by omega)]
      obtain ⟨x0, hx⟩ : ∃ x0, xs[i]? = some x0 := ⟨_, List.getElem?_eq_getElem hi⟩
      refine isnot_f (ev3 (d := .int (tr sc)) (d2 := .int x0) (d3 := .tup (q.map encS)) rfl (ix_nat (xs := xs.map .int) (i := i) rfl rfl (by rw [List.getElem?_map, hx]; rfl)) rfl ?_)
      rw [E_judge_path _ _ _ b1, c1 x0 (by rw [← hc, List.getElem?_set_ne (Ne.symm e)]; exact hx), beq_self_eq_true]

/-! ### papers -/
abbrev Q := Nat × (Int × Int) × Int × List (Bool × Int)
def encQ (q : Q) : D := .tup [.int q.1, .int q.2.1.1, .int q.2.1.2, .int q.2.2.1, .tup (q.2.2.2.map encS)]
def in15 (x : Int) : Prop := 0 ≤ x ∧ x ≤ 15
def okQ (q : Q) : Prop := in15 q.2.1.1 ∧ in15 q.2.1.2 ∧ in15 q.2.2.1 ∧ ∀ s ∈ q.2.2.2, inB s.2
def topQ (q : Q) : Int := climb (hI (mixR [q.2.1.1, q.2.1.2, q.2.2.1])) q.2.2.2
theorem marks_len {ps : List (Int × Int)} {ds : List Int} (h : ds.length = ps.length) : (marks ps ds).length = ps.length := by
  unfold marks; rw [List.length_zipWith, h, Nat.min_self]
theorem E_part_marks {ps : List (Int × Int)} {ds : List Int} (h : ds.length = ps.length) (h1 : 1 ≤ ps.length) (h2 : ps.length ≤ 12) : n_part_marks [.tup (ps.map encPr), .tup (ds.map .int)] = some (.tup ((marks ps ds).map .int)) := by
  show (decPr (ps.map encPr)).bind (fun ps => (intsOf (ds.map .int)).bind _) = _
  rw [decPr_map, Option.bind_some, intsOf_map, Option.bind_some, if_pos (by rw [ok12_of h1 h2, decide_eq_true h]; rfl)]
theorem E_paper_mark {ps : List (Int × Int)} {ds : List Int} (h : ds.length = ps.length) (h1 : 1 ≤ ps.length) (h2 : ps.length ≤ 12) : m_paper_mark [.tup (ps.map encPr), .tup (ds.map .int)] = some (.int (tr ((marks ps ds).map hI))) := by
  refine run_q rfl ?_
  unfold b_paper_mark
  exact q_ret (ev1 (ev2 rfl rfl (E_part_marks h h1 h2)) (E_tree_mark (by rw [marks_len h]; exact h1) (by rw [marks_len h]; exact h2)))
def qOf (ps : List (Int × Int)) (ds : List Int) (k : Nat) : Q := (k, ps.getD k (0, 0), ds.getD k 0, pa ((marks ps ds).map hI) k)
theorem getD_at {α : Type} {xs : List α} {k : Nat} {z : α} (h : k < xs.length) : xs[k]? = some (xs.getD k z) := by
  rw [List.getD_eq_getElem?_getD, List.getElem?_eq_getElem h]; rfl
theorem E_shown {ps : List (Int × Int)} {ds : List Int} {ks : List Nat} (h : ds.length = ps.length) (h1 : 1 ≤ ps.length) (h2 : ps.length ≤ 12) (h3 : ∀ k ∈ ks, k < ps.length) (h4 : ks.length ≤ 12) : m_shown_parts [.tup (ps.map encPr), .tup (ds.map .int), .tup (ks.map fun k : Nat => D.int k)] = some (.tup (ks.map fun k => encQ (qOf ps ds k))) := by
  refine run_q rfl ?_
  unfold b_shown_parts
  show (sSq _ _ [.val (.tup (ps.map encPr)), .val (.tup (ds.map .int)), .val (.tup (ks.map fun k : Nat => D.int k)), .emp, .emp]).map Prod.fst = _
  have ml := marks_len h
  refine q_set (ev2 rfl rfl (E_part_marks h h1 h2)) (q_ret (ev1 (d := .lst (ks.map fun k => encQ (qOf ps ds k))) (mLc_of rfl (lcL_map (fun k : Nat => D.int k) _ _ ?_) ?_) rfl))
  · intro k hk
    have hk := h3 k hk
    refine ⟨[.val (.tup (ps.map encPr)), .val (.tup (ds.map .int)), .val (.tup (ks.map fun k : Nat => D.int k)), .val (.tup ((marks ps ds).map .int)), .val (.int k)], rfl, rfl, ?_⟩
    refine (add_tup (add_tup (xs := [.int k]) rfl (ev1 (ix_nat (xs := ps.map encPr) (i := k) (d := encPr (ps.getD k (0, 0))) rfl rfl ?_) rfl) ?_) (ys := [.int (ds.getD k 0), .tup ((pa ((marks ps ds).map hI) k).map encS)]) ?_ ?_).trans rfl
    · rw [List.getElem?_map, getD_at hk]; rfl
    · show 1 + 2 ≤ LIM
      decide
    · show (mCons _ _ _).bind _ = _
      rw [mCons_of (ix_nat (xs := ds.map .int) (i := k) (d := .int (ds.getD k 0)) rfl rfl (by rw [List.getElem?_map, getD_at (h ▸ hk)]; rfl)) (mCons_of (ev2 rfl rfl (E_tree_path (xs := marks ps ds) (i := k) (by omega) (by omega))) rfl)]
      rfl
    · show 3 + 2 ≤ LIM
      decide
  · rw [List.length_map]; unfold LIM; omega
theorem E_number (i : Int) : m_is_number [.int i] = some (.bl true) := rfl
theorem E_is_shown (mark : Int) {q : Q} (h : okQ q) : m_is_shown_part [.int mark, encQ q] = some (.bl (topQ q == mark)) := by
  obtain ⟨k, ⟨a, b⟩, c, p⟩ := q
  obtain ⟨ha, hb, hc, hp⟩ := h
  refine run_q rfl ?_
  unfold b_is_shown_part
  show (sSq _ _ [.val (.int mark), .val (encQ (k, (a, b), c, p)), .emp, .emp, .emp, .emp, .emp, .emp]).map Prod.fst = _
  refine q_skip rfl ?_
  refine q_nx (Γ1 := [.val (.int mark), .val (encQ (k, (a, b), c, p)), .val (.int k), .val (.int a), .val (.int b), .val (.int c), .val (.tup (p.map encS)), .emp]) rfl ?_
  refine q_skip (or_f rfl ?_) ?_
  · show some (decide ((k : Int) < 0)) = _
    rw [decide_eq_false (by omega)]
  refine q_skip (not_t (ev1 (d := .lst ([a, b, c].map fun _ => .bl true)) (mLc_of (xs := [a, b, c].map .int) rfl (lcL_map D.int _ _ ?_) (show 3 ≤ LIM by decide)) rfl)) ?_
  · intro x hx
    have h15 : in15 x := by
      rcases List.mem_cons.mp hx with rfl | hx
      · exact ha
      rcases List.mem_cons.mp hx with rfl | hx
      · exact hb
      rcases List.mem_cons.mp hx with rfl | hx
      · exact hc
      cases hx
    obtain ⟨x0, x1⟩ := h15
    refine ⟨[.val (.int mark), .val (encQ (k, (a, b), c, p)), .val (.int k), .val (.int a), .val (.int b), .val (.int c), .val (.tup (p.map encS)), .val (.int x)], rfl, rfl, ?_⟩
    show (some (D.bl (decide (0 ≤ x)))).bind (fun z => (dB z).bind fun k => if k then some (D.bl (decide (x ≤ 15))) else some (.bl false)) = _
    rw [decide_eq_true x0, decide_eq_true x1]; rfl
  exact q_ret (ev3 rfl (ev1 (d := .tup ([a, b, c].map .int)) rfl (E_mix _)) rfl (E_judge_path _ _ _ hp))
theorem E_judge_parts (mark : Int) {qs : List Q} (h : ∀ q ∈ qs, okQ q) (hl : qs.length ≤ 12) : m_judge_parts [.int mark, .tup (qs.map encQ)] = some (.bl (qs.all fun q => topQ q == mark)) := by
  refine run_q rfl ?_
  unfold b_judge_parts
  refine q_ret ?_
  show (mCall dAll _) [.val (.int mark), .val (.tup (qs.map encQ)), .emp] = _
  refine ev1 (d := .lst (qs.map fun q => .bl (topQ q == mark))) (mLc_of rfl (lcL_map encQ _ _ fun q hq => ⟨[.val (.int mark), .val (.tup (qs.map encQ)), .val (encQ q)], rfl, rfl, ev2 rfl rfl (E_is_shown mark (h q hq))⟩) (by rw [List.length_map]; unfold LIM; omega)) ?_
  show (blsOf (qs.map fun q => D.bl (topQ q == mark))).map _ = _
  rw [show (qs.map fun q => D.bl (topQ q == mark)) = (qs.map fun q => topQ q == mark).map D.bl by rw [List.map_map]; rfl, blsOf_map]
  show some (D.bl ((qs.map fun q => topQ q == mark).all id)) = _
  rw [List.all_map]; rfl
theorem E_paper_marks {ps : List (Int × Int)} {ds : List Int} (h : ds.length = ps.length) (h2 : ps.length ≤ 12) : m__law_paper_marks [.tup (ps.map encPr), .tup (ds.map .int)] = some (.tup ((marks ps ds).map .int)) := by
  refine run_q rfl ?_
  unfold b__law_paper_marks
  refine q_ret (ev1 (d := .lst ((marks ps ds).map .int)) ?_ rfl)
  have e : (marks ps ds).map D.int = (List.range ps.length).map fun k => D.int (mixR [(ps.getD k (0, 0)).1, (ps.getD k (0, 0)).2, ds.getD k 0]) := by
    apply List.ext_getElem?
    intro k
    rw [List.getElem?_map, List.getElem?_map]
    unfold marks
    rw [List.getElem?_zipWith]
    by_cases hk : k < ps.length
    · rw [List.getElem?_range hk, getD_at (z := ((0, 0) : Int × Int)) hk, getD_at (xs := ds) (z := (0 : Int)) (by omega)]; rfl
    · rw [List.getElem?_eq_none (l := List.range ps.length) (by rw [List.length_range]; omega), List.getElem?_eq_none (l := ps) (by omega)]; rfl
  show mLc _ _ _ _ _ [.val (.tup (ps.map encPr)), .val (.tup (ds.map .int)), .emp] = _
  rw [e]
  refine mLc_of (rng_len (n := ps.length) ?_ (by omega)) (lcL_map (fun k : Nat => D.int k) _ _ ?_) ?_
  · show some (D.int ((ps.map encPr).length : Int)) = _
    rw [List.length_map]
  · intro k hk
    have hk := List.mem_range.mp hk
    refine ⟨[.val (.tup (ps.map encPr)), .val (.tup (ds.map .int)), .val (.int k)], rfl, rfl, ?_⟩
    have e1 : mBin dIx (mVarB 0) (mVarB 2) [.val (.tup (ps.map encPr)), .val (.tup (ds.map .int)), .val (.int k)] = some (encPr (ps.getD k (0, 0))) := ix_nat (xs := ps.map encPr) (i := k) rfl rfl (by rw [List.getElem?_map, getD_at hk]; rfl)
    have e2 : mBin dIx (mVarB 1) (mVarB 2) [.val (.tup (ps.map encPr)), .val (.tup (ds.map .int)), .val (.int k)] = some (.int (ds.getD k 0)) := ix_nat (xs := ds.map .int) (i := k) rfl rfl (by rw [List.getElem?_map, getD_at (h ▸ hk)]; rfl)
    refine ev1 (d := .tup ([(ps.getD k (0, 0)).1, (ps.getD k (0, 0)).2, ds.getD k 0].map .int)) ?_ (E_mix _)
    show (mCons _ _ _).bind _ = _
    rw [mCons_of ((mBin_of e1 rfl).trans (show _ = some (D.int (ps.getD k (0, 0)).1) from rfl)) (mCons_of ((mBin_of e1 rfl).trans (show _ = some (D.int (ps.getD k (0, 0)).2) from rfl)) (mCons_of e2 rfl))]
    rfl
  · rw [List.length_map, List.length_range]; unfold LIM; omega

theorem marks_take (ps : List (Int × Int)) (ds : List Int) (c : Nat) : marks (ps.take c) (ds.take c) = (marks ps ds).take c := by
  unfold marks; rw [List.take_zipWith]
theorem marks_drop (ps : List (Int × Int)) (ds : List Int) (c : Nat) : marks (ps.drop c) (ds.drop c) = (marks ps ds).drop c := by
  unfold marks; rw [List.drop_zipWith]
theorem getD_take {α : Type} {xs : List α} {k c : Nat} {z : α} (h : k < c) : (xs.take c).getD k z = xs.getD k z := by
  rw [List.getD_eq_getElem?_getD, List.getD_eq_getElem?_getD, List.getElem?_take, if_pos h]
theorem getD_drop {α : Type} {xs : List α} {k c : Nat} {z : α} : (xs.drop c).getD k z = xs.getD (c + k) z := by
  rw [List.getD_eq_getElem?_getD, List.getD_eq_getElem?_getD, List.getElem?_drop]
/-- the part of the left paper, its path led on -/
theorem q_left {ps : List (Int × Int)} {ds : List Int} {k : Nat} (h : ds.length = ps.length) (h1 : 2 ≤ ps.length) (h2 : ps.length ≤ 12) (hk : k < cutN ps.length) :
    qOf ps ds k = (k, (qOf (ps.take (cutN ps.length)) (ds.take (cutN ps.length)) k).2.1, (qOf (ps.take (cutN ps.length)) (ds.take (cutN ps.length)) k).2.2.1, (qOf (ps.take (cutN ps.length)) (ds.take (cutN ps.length)) k).2.2.2 ++ [(false, tr ((marks (ps.drop (cutN ps.length)) (ds.drop (cutN ps.length))).map hI))]) := by
  unfold qOf
  have ml := marks_len h
  have e : ((marks ps ds).map hI).length = ps.length := by rw [List.length_map, ml]
  rw [pa_more (by omega) (by omega), e, if_pos hk, getD_take hk, getD_take hk, marks_take, marks_drop, List.map_take, List.map_drop]
theorem q_right {ps : List (Int × Int)} {ds : List Int} {k : Nat} (h : ds.length = ps.length) (h1 : 2 ≤ ps.length) (h2 : ps.length ≤ 12) (hk : ¬ k < cutN ps.length) :
    qOf ps ds k = (k, (qOf (ps.drop (cutN ps.length)) (ds.drop (cutN ps.length)) (k - cutN ps.length)).2.1, (qOf (ps.drop (cutN ps.length)) (ds.drop (cutN ps.length)) (k - cutN ps.length)).2.2.1, (qOf (ps.drop (cutN ps.length)) (ds.drop (cutN ps.length)) (k - cutN ps.length)).2.2.2 ++ [(true, tr ((marks (ps.take (cutN ps.length)) (ds.take (cutN ps.length))).map hI))]) := by
  unfold qOf
  have ml := marks_len h
  have e : ((marks ps ds).map hI).length = ps.length := by rw [List.length_map, ml]
  rw [pa_more (by omega) (by omega), e, if_neg hk, getD_drop, getD_drop, show cutN ps.length + (k - cutN ps.length) = k by omega, marks_take, marks_drop, List.map_take, List.map_drop]
theorem split_sorted {ks : List Nat} (c : Nat) (h : ks.Pairwise (· < ·)) : ks.filter (fun k => decide (k < c)) ++ ks.filter (fun k => decide (c ≤ k)) = ks := by
  induction ks with
  | nil => rfl
  | cons k ks ih =>
    obtain ⟨h1, h2⟩ := List.pairwise_cons.mp h
    by_cases hk : k < c
    · rw [List.filter_cons_of_pos (by rw [decide_eq_true hk]), List.filter_cons_of_neg (a := k) (by rw [decide_eq_false (by omega)]; exact Bool.false_ne_true), List.cons_append, ih h2]
    · have e : ks.filter (fun k => decide (k < c)) = [] := List.filter_eq_nil_iff.mpr fun y hy => by
        have := h1 y hy
        rw [decide_eq_false (by omega)]; exact Bool.false_ne_true
      have e2 : ks.filter (fun k => decide (c ≤ k)) = ks := List.filter_eq_self.mpr fun y hy => by
        have := h1 y hy
        rw [decide_eq_true (by omega)]
      rw [List.filter_cons_of_neg (by rw [decide_eq_false hk]; exact Bool.false_ne_true), List.filter_cons_of_pos (a := k) (by rw [decide_eq_true (by omega)]), e, e2]; rfl

theorem E_parts {ps : List (Int × Int)} {ds : List Int} {ks : List Nat} (h : ds.length = ps.length) (h1 : 2 ≤ ps.length) (h2 : ps.length ≤ 12) (h3 : ∀ k ∈ ks, k < ps.length) (h4 : ks.length ≤ 12) (h5 : ks.Pairwise (· < ·)) :
    m__law_parts [.tup (ps.map encPr), .tup (ds.map .int), .int (cutN ps.length), .tup (ks.map fun k : Nat => D.int k)] = some (.tup (ks.map fun k => encQ (qOf ps ds k))) := by
  have c := cutN_lt h1
  generalize hcu : cutN ps.length = cu at c
  have ql : ∀ k, k < cu → qOf ps ds k = (k, (qOf (ps.take cu) (ds.take cu) k).2.1, (qOf (ps.take cu) (ds.take cu) k).2.2.1, (qOf (ps.take cu) (ds.take cu) k).2.2.2 ++ [(false, tr ((marks (ps.drop cu) (ds.drop cu)).map hI))]) := fun k hk => by rw [← hcu]; exact q_left h h1 h2 (by omega)
  have qr : ∀ k, cu ≤ k → qOf ps ds k = (k, (qOf (ps.drop cu) (ds.drop cu) (k - cu)).2.1, (qOf (ps.drop cu) (ds.drop cu) (k - cu)).2.2.1, (qOf (ps.drop cu) (ds.drop cu) (k - cu)).2.2.2 ++ [(true, tr ((marks (ps.take cu) (ds.take cu)).map hI))]) := fun k hk => by rw [← hcu]; exact q_right h h1 h2 (by omega)
  have lt : (ds.take cu).length = (ps.take cu).length := by rw [List.length_take, List.length_take, h]
  have ld : (ds.drop cu).length = (ps.drop cu).length := by rw [List.length_drop, List.length_drop, h]
  have lt' : (ps.take cu).length = cu := by rw [List.length_take]; omega
  have ld' : (ps.drop cu).length = ps.length - cu := List.length_drop
  have mL := E_paper_mark lt (by omega) (by omega)
  have mR := E_paper_mark ld (by omega) (by omega)
  generalize hL : tr ((marks (ps.take cu) (ds.take cu)).map hI) = L at *
  generalize hR : tr ((marks (ps.drop cu) (ds.drop cu)).map hI) = R at *
  generalize hk1 : ks.filter (fun k => decide (k < cu)) = k1
  generalize hk2 : ks.filter (fun k => decide (cu ≤ k)) = k2
  have e12 : k1 ++ k2 = ks := by rw [← hk1, ← hk2]; exact split_sorted cu h5
  have b1 : ∀ k ∈ k1, k < cu := fun k hk => by rw [← hk1] at hk; exact of_decide_eq_true (List.mem_filter.mp hk).2
  have b2 : ∀ k ∈ k2, cu ≤ k ∧ k < ps.length := fun k hk => by
    rw [← hk2] at hk
    obtain ⟨x, y⟩ := List.mem_filter.mp hk
    exact ⟨of_decide_eq_true y, h3 k x⟩
  have n12 : k1.length + k2.length = ks.length := by rw [← e12, List.length_append]
  have S1 := E_shown (ks := k1) lt (by omega) (by omega) (fun k hk => by have := b1 k hk; omega) (by omega)
  have S2 := E_shown (ks := k2.map fun k => k - cu) ld (by omega) (by omega) (fun k hk => by
    obtain ⟨j, hj, rfl⟩ := List.mem_map.mp hk
    have := b2 j hj
    omega) (by rw [List.length_map]; omega)
  rw [List.map_map, List.map_map] at S2
  refine run_q rfl ?_
  unfold b__law_parts
  show (sSq _ _ [.val (.tup (ps.map encPr)), .val (.tup (ds.map .int)), .val (.int cu), .val (.tup (ks.map fun k : Nat => D.int k)), .emp, .emp, .emp, .emp, .emp, .emp, .emp]).map Prod.fst = _
  refine q_par (d := .lst (k1.map fun k : Nat => D.int k)) (e := .lst (k2.map ((fun k : Nat => D.int k) ∘ fun k => k - cu))) (mLc_of rfl ?_ ?_) (mLc_of rfl ?_ ?_) ?_
  · rw [← hk1]
    refine lcL_filter (fun k : Nat => D.int k) _ _ _ fun k _ => ⟨[.val (.tup (ps.map encPr)), .val (.tup (ds.map .int)), .val (.int cu), .val (.tup (ks.map fun k : Nat => D.int k)), .emp, .emp, .emp, .emp, .emp, .emp, .val (.int k)], rfl, ?_, fun _ => rfl⟩
    show some (decide ((k : Int) < (cu : Int))) = some (decide (k < cu))
    by_cases hk : k < cu
    · rw [decide_eq_true hk, decide_eq_true (by omega)]
    · rw [decide_eq_false hk, decide_eq_false (by omega)]
  · rw [List.length_map]; unfold LIM; omega
  · rw [← hk2]
    refine lcL_filter (fun k : Nat => D.int k) _ _ _ fun k _ => ⟨[.val (.tup (ps.map encPr)), .val (.tup (ds.map .int)), .val (.int cu), .val (.tup (ks.map fun k : Nat => D.int k)), .emp, .emp, .emp, .emp, .emp, .emp, .val (.int k)], rfl, ?_, fun hk => ?_⟩
    · show some (decide ((cu : Int) ≤ (k : Int))) = some (decide (cu ≤ k))
      by_cases hk : cu ≤ k
      · rw [decide_eq_true hk, decide_eq_true (by omega)]
      · rw [decide_eq_false hk, decide_eq_false (by omega)]
    · have hk := of_decide_eq_true hk
      show some (D.int ((k : Int) - (cu : Int))) = some (D.int ((k - cu : Nat) : Int))
      rw [Int.ofNat_sub hk]
  · rw [List.length_map]; unfold LIM; omega
  refine q_nx (Γ1 := [.val (.tup (ps.map encPr)), .val (.tup (ds.map .int)), .val (.int cu), .val (.tup (ks.map fun k : Nat => D.int k)), .val (.lst (k1.map fun k : Nat => D.int k)), .val (.lst (k2.map ((fun k : Nat => D.int k) ∘ fun k => k - cu))), .val (.int L), .val (.int R), .own (.lst []), .emp, .emp]) ?_ ?_
  · unfold sPar3 xV xO
    rw [ev2 (sl_take (xs := ps.map encPr) (c := cu) rfl rfl) (sl_take (xs := ds.map .int) (c := cu) rfl rfl) (by rw [← List.map_take, ← List.map_take]; exact mL), ev2 (sl_drop (xs := ps.map encPr) (c := cu) rfl rfl) (sl_drop (xs := ds.map .int) (c := cu) rfl rfl) (by rw [← List.map_drop, ← List.map_drop]; exact mR)]
    rfl
  refine q_blk (fun Γ => ∃ s9, Γ = [.val (.tup (ps.map encPr)), .val (.tup (ds.map .int)), .val (.int cu), .val (.tup (ks.map fun k : Nat => D.int k)), .val (.lst (k1.map fun k : Nat => D.int k)), .val (.lst (k2.map ((fun k : Nat => D.int k) ∘ fun k => k - cu))), .val (.int L), .val (.int R), .own (.lst (k1.map fun k => encQ (qOf ps ds k))), s9, .emp]) ?_ ?_
  · by_cases e : k1 = []
    · subst e
      exact ⟨_, rfl, _, rfl⟩
    · have hf := pre_for (g := gN 9) (b := (sApp 8 (mBin dAdd (mSl (mVarB 9) mONone (mOSome (mC (.int 4)))) (mTup (mCons (mBin dAdd (mBin dIx (mVarB 9) (mC (.int 4))) (mTup (mCons (mTup (mCons (mC (.str "right")) (mCons (mVar 7) mNil))) mNil))) mNil))))) (fun k => encQ (qOf (ps.take cu) (ds.take cu) k)) (fun done Γ => ∃ s9, Γ = [.val (.tup (ps.map encPr)), .val (.tup (ds.map .int)), .val (.int cu), .val (.tup (ks.map fun k : Nat => D.int k)), .val (.lst (k1.map fun k : Nat => D.int k)), .val (.lst (k2.map ((fun k : Nat => D.int k) ∘ fun k => k - cu))), .val (.int L), .val (.int R), .own (.lst (done.map fun k => encQ (qOf ps ds k))), s9, .emp]) k1 (ml := mItems (mCall m_shown_parts (mCons (mSl (mVarB 0) mONone (mOSome (mVarB 2))) (mCons (mSl (mVarB 1) mONone (mOSome (mVarB 2))) (mCons (mCall dTuple (mCons (mVarB 4) mNil)) mNil)))))
        (Γ := [.val (.tup (ps.map encPr)), .val (.tup (ds.map .int)), .val (.int cu), .val (.tup (ks.map fun k : Nat => D.int k)), .val (.lst (k1.map fun k : Nat => D.int k)), .val (.lst (k2.map ((fun k : Nat => D.int k) ∘ fun k => k - cu))), .val (.int L), .val (.int R), .own (.lst []), .emp, .emp])
        ?_ ⟨_, rfl⟩ ?_
      · obtain ⟨Γ', e1, s9, rfl⟩ := hf
        refine ⟨_, (sIf_t ?_).trans e1, _, rfl⟩
        show some (decide ((0 : Int) < ((k1.map fun k : Nat => D.int k).length : Int))) = _
        have := List.length_pos_iff.mpr e
        rw [List.length_map, decide_eq_true (by omega)]
      · unfold mItems
        rw [ev3 (sl_take (xs := ps.map encPr) (c := cu) rfl rfl) (sl_take (xs := ds.map .int) (c := cu) rfl rfl) (ev1 (e := .tup (k1.map fun k : Nat => D.int k)) rfl rfl) (by rw [← List.map_take, ← List.map_take]; exact S1)]
        rfl
      · intro d1 k d2 hd Γ ⟨s9, e⟩
        subst e
        have hk : k ∈ k1 := by rw [hd]; simp
        have dl : d1.length ≤ 12 := by have := congrArg List.length hd; rw [List.length_append] at this; omega
        have q0 := ql k (b1 k hk)
        refine ⟨_, (sApp_of (i := 8) (m := (mBin dAdd (mSl (mVarB 9) mONone (mOSome (mC (.int 4)))) (mTup (mCons (mBin dAdd (mBin dIx (mVarB 9) (mC (.int 4))) (mTup (mCons (mTup (mCons (mC (.str "right")) (mCons (mVar 7) mNil))) mNil))) mNil)))) (xs := d1.map fun k => encQ (qOf ps ds k)) (Γ := [.val (.tup (ps.map encPr)), .val (.tup (ds.map .int)), .val (.int cu), .val (.tup (ks.map fun k : Nat => D.int k)), .val (.lst (k1.map fun k : Nat => D.int k)), .val (.lst (k2.map ((fun k : Nat => D.int k) ∘ fun k => k - cu))), .val (.int L), .val (.int R), .own (.lst (d1.map fun k => encQ (qOf ps ds k))), .val (encQ (qOf (ps.take cu) (ds.take cu) k)), .emp]) (d := encQ (qOf ps ds k)) rfl ?_ (by rw [List.length_map]; unfold LIM; omega)), _, by rw [List.map_append]; rfl⟩
        rw [q0]
        have pl : (qOf (ps.take cu) (ds.take cu) k).2.2.2.length ≤ 12 := by
          have := pa_len (xs := (marks (ps.take cu) (ds.take cu)).map hI) (by rw [List.length_map, marks_len lt]; omega) (by rw [List.length_map, marks_len lt]; omega) k
          rw [List.length_map, marks_len lt] at this
          show (pa _ k).length ≤ 12
          omega
        have ek : (qOf (ps.take cu) (ds.take cu) k).1 = k := rfl
        generalize qOf (ps.take cu) (ds.take cu) k = q at *
        subst ek
        refine (add_tup (xs := [.int q.1, .int q.2.1.1, .int q.2.1.2, .int q.2.2.1]) (ys := [.tup ((q.2.2.2 ++ [(false, R)]).map encS)]) rfl ?_ (show 4 + 1 ≤ LIM by decide)).trans rfl
        show (mCons _ _ _).bind _ = _
        rw [mCons_of ((add_tup (xs := q.2.2.2.map encS) (ys := [encS (false, R)]) rfl rfl (by rw [List.length_map]; unfold LIM; simp; omega))) rfl, List.map_append]
        rfl
  intro Γ1 ⟨s9, e⟩
  subst e
  refine q_blk (fun Γ => ∃ s9, Γ = [.val (.tup (ps.map encPr)), .val (.tup (ds.map .int)), .val (.int cu), .val (.tup (ks.map fun k : Nat => D.int k)), .val (.lst (k1.map fun k : Nat => D.int k)), .val (.lst (k2.map ((fun k : Nat => D.int k) ∘ fun k => k - cu))), .val (.int L), .val (.int R), .own (.lst (ks.map fun k => encQ (qOf ps ds k))), s9, .emp]) ?_ (fun Γ1 ⟨s9, e⟩ => by subst e; exact q_ret rfl)
  by_cases e : k2 = []
  · subst e
    rw [List.append_nil] at e12
    subst e12
    exact ⟨_, rfl, _, rfl⟩
  · have hf := pre_for (g := gN 9) (b := (sApp 8 (mBin dAdd (mBin dAdd (mTup (mCons (mBin dAdd (mBin dIx (mVarB 9) (mC (.int 0))) (mVarB 2)) mNil)) (mSl (mVarB 9) (mOSome (mC (.int 1))) (mOSome (mC (.int 4))))) (mTup (mCons (mBin dAdd (mBin dIx (mVarB 9) (mC (.int 4))) (mTup (mCons (mTup (mCons (mC (.str "left")) (mCons (mVar 6) mNil))) mNil))) mNil))))) (fun k => encQ (qOf (ps.drop cu) (ds.drop cu) (k - cu))) (fun done Γ => ∃ s9, Γ = [.val (.tup (ps.map encPr)), .val (.tup (ds.map .int)), .val (.int cu), .val (.tup (ks.map fun k : Nat => D.int k)), .val (.lst (k1.map fun k : Nat => D.int k)), .val (.lst (k2.map ((fun k : Nat => D.int k) ∘ fun k => k - cu))), .val (.int L), .val (.int R), .own (.lst ((k1 ++ done).map fun k => encQ (qOf ps ds k))), s9, .emp]) k2 (ml := mItems (mCall m_shown_parts (mCons (mSl (mVarB 0) (mOSome (mVarB 2)) mONone) (mCons (mSl (mVarB 1) (mOSome (mVarB 2)) mONone) (mCons (mCall dTuple (mCons (mVarB 5) mNil)) mNil)))))
        (Γ := [.val (.tup (ps.map encPr)), .val (.tup (ds.map .int)), .val (.int cu), .val (.tup (ks.map fun k : Nat => D.int k)), .val (.lst (k1.map fun k : Nat => D.int k)), .val (.lst (k2.map ((fun k : Nat => D.int k) ∘ fun k => k - cu))), .val (.int L), .val (.int R), .own (.lst (k1.map fun k => encQ (qOf ps ds k))), s9, .emp])
        ?_ ⟨_, by rw [List.append_nil]⟩ ?_
    · obtain ⟨Γ', e1, s9', rfl⟩ := hf
      refine ⟨_, (sIf_t ?_).trans e1, _, by rw [e12]⟩
      show some (decide ((0 : Int) < ((k2.map ((fun k : Nat => D.int k) ∘ fun k => k - cu)).length : Int))) = _
      have := List.length_pos_iff.mpr e
      rw [List.length_map, decide_eq_true (by omega)]
    · unfold mItems
      rw [ev3 (sl_drop (xs := ps.map encPr) (c := cu) rfl rfl) (sl_drop (xs := ds.map .int) (c := cu) rfl rfl) (ev1 (e := .tup (k2.map ((fun k : Nat => D.int k) ∘ fun k => k - cu))) rfl rfl) (by rw [← List.map_drop, ← List.map_drop]; exact S2)]
      rfl
    · intro d1 k d2 hd Γ ⟨s9, e⟩
      subst e
      have hk : k ∈ k2 := by rw [hd]; simp
      have dl : d1.length ≤ k2.length := by have := congrArg List.length hd; rw [List.length_append] at this; omega
      have hb := b2 k hk
      have q0 := qr k hb.1
      refine ⟨_, (sApp_of (i := 8) (m := (mBin dAdd (mBin dAdd (mTup (mCons (mBin dAdd (mBin dIx (mVarB 9) (mC (.int 0))) (mVarB 2)) mNil)) (mSl (mVarB 9) (mOSome (mC (.int 1))) (mOSome (mC (.int 4))))) (mTup (mCons (mBin dAdd (mBin dIx (mVarB 9) (mC (.int 4))) (mTup (mCons (mTup (mCons (mC (.str "left")) (mCons (mVar 6) mNil))) mNil))) mNil)))) (xs := (k1 ++ d1).map fun k => encQ (qOf ps ds k)) (Γ := [.val (.tup (ps.map encPr)), .val (.tup (ds.map .int)), .val (.int cu), .val (.tup (ks.map fun k : Nat => D.int k)), .val (.lst (k1.map fun k : Nat => D.int k)), .val (.lst (k2.map ((fun k : Nat => D.int k) ∘ fun k => k - cu))), .val (.int L), .val (.int R), .own (.lst ((k1 ++ d1).map fun k => encQ (qOf ps ds k))), .val (encQ (qOf (ps.drop cu) (ds.drop cu) (k - cu))), .emp]) (d := encQ (qOf ps ds k)) rfl ?_ (by rw [List.length_map, List.length_append]; unfold LIM; omega)), _, by rw [← List.append_assoc, List.map_append (l₁ := k1 ++ d1)]; rfl⟩
      rw [q0]
      have pl : (qOf (ps.drop cu) (ds.drop cu) (k - cu)).2.2.2.length ≤ 12 := by
        have := pa_len (xs := (marks (ps.drop cu) (ds.drop cu)).map hI) (by rw [List.length_map, marks_len ld]; omega) (by rw [List.length_map, marks_len ld]; omega) (k - cu)
        rw [List.length_map, marks_len ld] at this
        show (pa _ (k - cu)).length ≤ 12
        omega
      have ek : ((qOf (ps.drop cu) (ds.drop cu) (k - cu)).1 : Int) + cu = k := by show ((k - cu : Nat) : Int) + cu = k; omega
      generalize qOf (ps.drop cu) (ds.drop cu) (k - cu) = q at *
      refine (add_tup (add_tup (xs := [.int k]) (ys := [.int q.2.1.1, .int q.2.1.2, .int q.2.2.1]) ?_ rfl (show 1 + 3 ≤ LIM by decide)) (ys := [.tup ((q.2.2.2 ++ [(true, L)]).map encS)]) ?_ (show 4 + 1 ≤ LIM by decide)).trans rfl
      · show some (D.tup [D.int ((q.1 : Int) + (cu : Int))]) = _
        rw [ek]
      · show (mCons _ _ _).bind _ = _
        rw [mCons_of ((add_tup (xs := q.2.2.2.map encS) (ys := [encS (true, L)]) rfl rfl (by rw [List.length_map]; unfold LIM; simp; omega))) rfl, List.map_append]
        rfl
theorem okQ_L (q : Q) (h : q.2.2.2.length ≤ 1000000) : D.okL 8 (encQ q) = true := okL_tup (show 5 ≤ 1000000 by decide) fun x hx => by
  rcases List.mem_cons.mp hx with rfl | hx
  · exact okL_int _ _
  rcases List.mem_cons.mp hx with rfl | hx
  · exact okL_int _ _
  rcases List.mem_cons.mp hx with rfl | hx
  · exact okL_int _ _
  rcases List.mem_cons.mp hx with rfl | hx
  · exact okL_int _ _
  rw [List.mem_singleton.mp hx]
  exact okP 4 h
theorem E_law_two (a b : Int) : n__law_two [.int a, .int b] = some (.int (TI a b)) := rfl
theorem set_splitP (xs : List (Int × Int)) (p : Nat) (v : Int × Int) (h : p < xs.length) : xs.set p v = xs.take p ++ [v] ++ xs.drop (p + 1) := by
  rw [List.set_eq_take_append_cons_drop, if_pos h, List.append_assoc]; rfl
theorem marks_set (ps : List (Int × Int)) (ds : List Int) (p : Nat) (v : Int × Int) (h : ds.length = ps.length) (hp : p < ps.length) : marks (ps.set p v) ds = (marks ps ds).set p (mixR [v.1, v.2, ds.getD p 0]) := by
  apply List.ext_getElem?
  intro k
  unfold marks
  rw [List.getElem?_zipWith, List.getElem?_set]
  by_cases e : p = k
  · subst e
    rw [if_pos rfl, if_pos hp, getD_at (xs := ds) (z := (0 : Int)) (by omega), List.getElem?_set_self (by rw [List.length_zipWith]; omega)]
  · rw [if_neg e, List.getElem?_set_ne e, List.getElem?_zipWith]
theorem E_paper_right {ps : List (Int × Int)} {ds : List Int} {ks : List Nat} (sp : Nat) (w : Int) (h : ds.length = ps.length) (h1 : 2 ≤ ps.length) (h2 : ps.length ≤ 12) (h3 : ∀ k ∈ ks, k < ps.length) (h4 : ks.length ≤ 12) (h5 : ks.Pairwise (· < ·)) (h6 : ks ≠ []) (h7 : sp < ps.length)
    (hp : ∀ x ∈ ps, in15 x.1 ∧ in15 x.2) (hd : ∀ x ∈ ds, in15 x) (hw : in15 w) :
    m__law_paper_right [.tup (ps.map encPr), .tup (ds.map .int), .tup (ks.map fun k : Nat => D.int k), .int sp, .int w] = some (.bl true) := by
  have c := cutN_lt h1
  have ml := marks_len h
  have eP := E_parts h h1 h2 h3 h4 h5
  have eS := E_shown h (by omega) h2 h3 h4
  have eS1 := E_shown (ks := [sp]) h (by omega) h2 (fun k hk => by rw [List.mem_singleton.mp hk]; exact h7) (by show 1 ≤ 12; decide)
  have eM := E_paper_mark h (by omega) h2
  have eMs := E_paper_marks h h2
  have eSi := E_singles (marks ps ds) (by omega)
  have lsi : ((marks ps ds).map hI).length = ps.length := by rw [List.length_map, ml]
  have bsi := sing_b (marks ps ds)
  -- the changed paper
  generalize hcp : ps.set sp ((ps.getD sp (0, 0)).1, w) = cp
  have lcp : cp.length = ps.length := by rw [← hcp, List.length_set]
  have eM2 := E_paper_mark (ps := cp) (ds := ds) (by omega) (by omega) (by omega)
  have eMs2 := E_paper_marks (ps := cp) (ds := ds) (by omega) (by omega)
  have mcp : marks cp ds = (marks ps ds).set sp (mixR [(ps.getD sp (0, 0)).1, w, ds.getD sp 0]) := by rw [← hcp]; exact marks_set ps ds sp _ h h7
  have lmc : (marks cp ds).length = ps.length := by rw [marks_len (by omega), lcp]
  have eSi2 := E_singles (marks cp ds) (by omega)
  have eT2 : n__law_tree [.tup (((marks cp ds).map hI).map .int)] = some (.int (tr ((marks cp ds).map hI))) := E_law_tree (by rw [List.length_map]; omega) (by rw [List.length_map]; omega)
  have path2 : pa ((marks cp ds).map hI) sp = pa ((marks ps ds).map hI) sp := by
    rw [mcp, List.map_set]; exact pa_set (by omega) (by omega) sp _ (by omega)
  have top2 : climb (hI (mixR [(ps.getD sp (0, 0)).1, w, ds.getD sp 0])) (pa ((marks ps ds).map hI) sp) = tr ((marks cp ds).map hI) := by
    rw [← path2]
    refine climb_pa (by rw [List.length_map]; omega) (by rw [List.length_map]; omega) sp _ ?_
    rw [List.getElem?_map, mcp, List.getElem?_set_self (by omega)]; rfl
  -- the halves
  generalize hsi : (marks ps ds).map hI = si at *
  have t0 := tr_more (xs := si) (by omega) (by omega)
  rw [lsi] at t0
  obtain ⟨l1, l2⟩ := cut_len (xs := si) (by omega)
  rw [lsi] at l1 l2
  have el : n__law_tree [.tup ((si.take (cutN ps.length)).map .int)] = some (.int (tr (si.take (cutN ps.length)))) := E_law_tree (by omega) (by omega)
  have er : n__law_tree [.tup ((si.drop (cutN ps.length)).map .int)] = some (.int (tr (si.drop (cutN ps.length)))) := E_law_tree (by omega) (by omega)
  have pl : m_paper_mark [.tup ((ps.take (cutN ps.length)).map encPr), .tup ((ds.take (cutN ps.length)).map .int)] = some (.int (tr (si.take (cutN ps.length)))) := by
    rw [E_paper_mark (by rw [List.length_take, List.length_take, h]) (by rw [List.length_take]; omega) (by rw [List.length_take]; omega), marks_take, List.map_take, hsi]
  have pr : m_paper_mark [.tup ((ps.drop (cutN ps.length)).map encPr), .tup ((ds.drop (cutN ps.length)).map .int)] = some (.int (tr (si.drop (cutN ps.length)))) := by
    rw [E_paper_mark (by rw [List.length_drop, List.length_drop, h]) (by rw [List.length_drop]; omega) (by rw [List.length_drop]; omega), marks_drop, List.map_drop, hsi]
  generalize tr (si.take (cutN ps.length)) = L at *
  generalize tr (si.drop (cutN ps.length)) = R at *
  have sk : ∀ k, k < ps.length → si[k]? = some (hI (mixR [(ps.getD k (0, 0)).1, (ps.getD k (0, 0)).2, ds.getD k 0])) := fun k hk => by
    rw [← hsi, List.getElem?_map]
    unfold marks
    rw [List.getElem?_zipWith, getD_at (z := ((0, 0) : Int × Int)) hk, getD_at (xs := ds) (z := (0 : Int)) (by omega)]; rfl
  have topK : ∀ k, k < ps.length → topQ (qOf ps ds k) = tr si := fun k hk => by
    unfold topQ qOf
    rw [hsi]
    exact climb_pa (by omega) (by omega) k _ (sk k hk)
  have g15 : ∀ k, k < ps.length → in15 (ps.getD k (0, 0)).1 ∧ in15 (ps.getD k (0, 0)).2 ∧ in15 (ds.getD k 0) := fun k hk => by
    obtain ⟨x, y⟩ := hp _ (List.mem_of_getElem? (getD_at (z := ((0, 0) : Int × Int)) hk))
    exact ⟨x, y, hd _ (List.mem_of_getElem? (getD_at (z := (0 : Int)) (by omega)))⟩
  have pb : ∀ k, ∀ s ∈ pa si k, inB s.2 := fun k => pa_b (by omega) (by omega) bsi k
  have okK : ∀ k, k < ps.length → okQ (qOf ps ds k) := fun k hk => by
    obtain ⟨x, y, z⟩ := g15 k hk
    refine ⟨x, y, z, ?_⟩
    show ∀ s ∈ pa ((marks ps ds).map hI) k, inB s.2
    rw [hsi]; exact pb k
  have pln : ∀ k, (qOf ps ds k).2.2.2.length ≤ 1000000 := fun k => by
    show (pa ((marks ps ds).map hI) k).length ≤ _
    rw [hsi]
    have := pa_len (xs := si) (by omega) (by omega) k
    omega
  have okD : D.okL 9 (.tup (ks.map fun k => encQ (qOf ps ds k))) = true := okL_tup (by rw [List.length_map]; omega) fun x hx => by
    obtain ⟨k, _, rfl⟩ := List.mem_map.mp hx; exact okQ_L _ (pln k)
  have J : ∀ mark : Int, m_judge_parts [.int mark, .tup (ks.map fun k => encQ (qOf ps ds k))] = some (.bl ((ks.map fun k => qOf ps ds k).all fun q => topQ q == mark)) := fun mark => by
    have := E_judge_parts mark (qs := ks.map fun k => qOf ps ds k) (fun q hq => by
      obtain ⟨k, hk, rfl⟩ := List.mem_map.mp hq; exact okK k (h3 k hk)) (by rw [List.length_map]; omega)
    rw [List.map_map] at this
    exact this
  have J1 : m_judge_parts [.int (tr si), .tup (ks.map fun k => encQ (qOf ps ds k))] = some (.bl true) := by
    rw [J, List.all_eq_true.mpr]
    intro q hq
    obtain ⟨k, hk, rfl⟩ := List.mem_map.mp hq
    rw [topK k (h3 k hk), beq_self_eq_true]
  have tb := tr_b (xs := si) (by omega) (by omega) bsi
  have J2 : m_judge_parts [.int ((tr si + 1) % 256), .tup (ks.map fun k => encQ (qOf ps ds k))] = some (.bl false) := by
    rw [J]
    obtain ⟨k, ks', rfl⟩ := List.exists_cons_of_ne_nil h6
    have : (topQ (qOf ps ds k) == (tr si + 1) % 256) = false := by
      rw [topK k (h3 k List.mem_cons_self), beq_eq_false_iff_ne]
      unfold inB at tb
      omega
    rw [List.map_cons, List.all_cons, this]; rfl
  have due : ∀ Γ : En, (Γ = [.val (.tup (ps.map encPr)), .val (.tup (ds.map .int)), .val (.tup (ks.map fun k : Nat => D.int k)), .val (.int sp), .val (.int w), .val (.int (cutN ps.length)), .val (.int (tr si)), .val (.tup (ks.map fun k => encQ (qOf ps ds k))), .val (.int L), .val (.int R), .val (.tup ((marks ps ds).map .int)), .val (.tup (si.map .int)), .emp, .emp, .emp, .emp, .emp]) →
      (mLc (mItems (mVar 2)) (gN 16) mYes (mBin dAdd (mBin dAdd (mTup (mCons (mVar 16) mNil)) (mBin dIx (mVarB 0) (mVarB 16))) (mTup (mCons (mBin dIx (mVarB 1) (mVarB 16)) (mCons (mCall n__law_path (mCons (mVar 11) (mCons (mVar 16) mNil))) mNil)))) [16]) Γ = some (.lst (ks.map fun k => encQ (qOf ps ds k))) := fun Γ e => by
    subst e
    refine mLc_of rfl (lcL_map (fun k : Nat => D.int k) _ _ ?_) (by rw [List.length_map]; unfold LIM; omega)
    intro k hk
    have hk := h3 k hk
    refine ⟨[.val (.tup (ps.map encPr)), .val (.tup (ds.map .int)), .val (.tup (ks.map fun k : Nat => D.int k)), .val (.int sp), .val (.int w), .val (.int (cutN ps.length)), .val (.int (tr si)), .val (.tup (ks.map fun k => encQ (qOf ps ds k))), .val (.int L), .val (.int R), .val (.tup ((marks ps ds).map .int)), .val (.tup (si.map .int)), .emp, .emp, .emp, .emp, .val (.int k)], rfl, rfl, ?_⟩
    refine (add_tup (xs := [.int k, .int (ps.getD k (0, 0)).1, .int (ps.getD k (0, 0)).2]) (add_tup (xs := [.int k]) rfl (ix_nat (xs := ps.map encPr) (i := k) (d := encPr (ps.getD k (0, 0))) rfl rfl ?_) (show 1 + 2 ≤ LIM by decide)) (ys := [.int (ds.getD k 0), .tup ((pa si k).map encS)]) ?_ (show 3 + 2 ≤ LIM by decide)).trans ?_
    · rw [List.getElem?_map, getD_at hk]; rfl
    · show (mCons _ _ _).bind _ = _
      rw [mCons_of (ix_nat (xs := ds.map .int) (i := k) (d := .int (ds.getD k 0)) rfl rfl (by rw [List.getElem?_map, getD_at (h ▸ hk)]; rfl)) (mCons_of (ev2 rfl rfl (E_law_path (xs := si) (i := k) (by omega) (by omega))) rfl)]
      rfl
    · show some _ = some (encQ (k, ps.getD k (0, 0), ds.getD k 0, pa ((marks ps ds).map hI) k))
      rw [hsi]; rfl
  have hone : m_judge_parts [.int (tr ((marks cp ds).map hI)), .tup [encQ (sp, ((ps.getD sp (0, 0)).1, w), ds.getD sp 0, pa si sp)]] = some (.bl true) := by
    obtain ⟨x, y, z⟩ := g15 sp h7
    have := E_judge_parts (tr ((marks cp ds).map hI)) (qs := [(sp, ((ps.getD sp (0, 0)).1, w), ds.getD sp 0, pa si sp)]) (fun q hq => by
      rw [List.mem_singleton.mp hq]; exact ⟨x, hw, z, pb sp⟩) (by show 1 ≤ 12; decide)
    refine this.trans ?_
    show some (D.bl ((climb (hI (mixR [(ps.getD sp (0, 0)).1, w, ds.getD sp 0])) (pa si sp) == _) && true)) = _
    rw [top2, beq_self_eq_true]; rfl
  refine run_q rfl ?_
  unfold b__law_paper_right
  show (sSq _ _ [.val (.tup (ps.map encPr)), .val (.tup (ds.map .int)), .val (.tup (ks.map fun k : Nat => D.int k)), .val (.int sp), .val (.int w), .emp, .emp, .emp, .emp, .emp, .emp, .emp, .emp, .emp, .emp, .emp, .emp]).map Prod.fst = _
  refine q_set (ev1 (d := .int ps.length) ?_ (E_cut _ h2)) ?_
  · show some (D.int ((ps.map encPr).length : Int)) = _
    rw [List.length_map]
  refine q_par (ev2 rfl rfl eM) (ev3 rfl rfl rfl eS) ?_
  refine q_par (ev2 (sl_take (xs := ps.map encPr) (c := cutN ps.length) rfl rfl) (sl_take (xs := ds.map .int) (c := cutN ps.length) rfl rfl) (by rw [← List.map_take, ← List.map_take]; exact pl)) (ev2 (sl_drop (xs := ps.map encPr) (c := cutN ps.length) rfl rfl) (sl_drop (xs := ds.map .int) (c := cutN ps.length) rfl rfl) (by rw [← List.map_drop, ← List.map_drop]; exact pr)) ?_
  refine q_set (ev2 rfl rfl eMs) (q_set (ev1 rfl eSi) ?_)
  refine q_skip (not_like (x := .tup [.int L, .int R]) (y := .tup [.int L, .int R]) rfl ?_ rfl rfl) ?_
  · show (mCons _ _ _).bind _ = _
    rw [mCons_of (ev1 (sl_take (xs := si.map .int) (c := cutN ps.length) rfl rfl) (by rw [← List.map_take]; exact el)) (mCons_of (ev1 (sl_drop (xs := si.map .int) (c := cutN ps.length) rfl rfl) (by rw [← List.map_drop]; exact er)) rfl)]
    rfl
  refine q_set (ev1 (due _ rfl) rfl) ?_
  refine q_skip (or_f (not_like (x := .int (tr si)) (y := .int (TI L R)) rfl (ev2 rfl rfl (E_law_two L R)) (by rw [t0]) rfl) (not_like rfl rfl rfl okD)) ?_
  refine q_skip (or_f (not_like (mCall_of (mCons_of rfl (mCons_of rfl (mCons_of rfl (mCons_of rfl rfl)))) |>.trans eP) rfl rfl okD) (isnot_f (ev2 rfl rfl J1))) ?_
  refine q_skip (isnot_f (ev2 (d := .int ((tr si + 1) % 256)) rfl rfl J2)) ?_
  refine q_set (d := .tup (cp.map encPr)) ?_ ?_
  · refine (add_tup (add_tup (sl_take (xs := ps.map encPr) (c := sp) rfl rfl) (ys := [encPr ((ps.getD sp (0, 0)).1, w)]) ?_ ?_) (sl_drop (xs := ps.map encPr) (c := sp + 1) rfl rfl) ?_).trans ?_
    · have e1 : mBin dIx (mVarB 0) (mVarB 3) [.val (.tup (ps.map encPr)), .val (.tup (ds.map .int)), .val (.tup (ks.map fun k : Nat => D.int k)), .val (.int sp), .val (.int w), .val (.int (cutN ps.length)), .val (.int (tr si)), .val (.tup (ks.map fun k => encQ (qOf ps ds k))), .val (.int L), .val (.int R), .val (.tup ((marks ps ds).map .int)), .val (.tup (si.map .int)), .val (.tup (ks.map fun k => encQ (qOf ps ds k))), .emp, .emp, .emp, .emp] = some (encPr (ps.getD sp (0, 0))) := ix_nat (xs := ps.map encPr) (i := sp) rfl rfl (by rw [List.getElem?_map, getD_at h7]; rfl)
      have e2 : (mTup (mCons (mBin dIx (mBin dIx (mVarB 0) (mVarB 3)) (mC (.int 0))) (mCons (mVar 4) mNil))) [.val (.tup (ps.map encPr)), .val (.tup (ds.map .int)), .val (.tup (ks.map fun k : Nat => D.int k)), .val (.int sp), .val (.int w), .val (.int (cutN ps.length)), .val (.int (tr si)), .val (.tup (ks.map fun k => encQ (qOf ps ds k))), .val (.int L), .val (.int R), .val (.tup ((marks ps ds).map .int)), .val (.tup (si.map .int)), .val (.tup (ks.map fun k => encQ (qOf ps ds k))), .emp, .emp, .emp, .emp] = some (encPr ((ps.getD sp (0, 0)).1, w)) := by
        show (mCons _ _ _).bind _ = _
        rw [mCons_of ((mBin_of e1 rfl).trans (show _ = some (D.int (ps.getD sp (0, 0)).1) from rfl)) (mCons_of (x := .int w) rfl rfl)]
        rfl
      exact (congrArg (fun z => Option.bind z _) (mCons_of e2 rfl)).trans rfl
    · rw [List.length_take, List.length_map]; unfold LIM; simp; omega
    · rw [List.length_append, List.length_take, List.length_drop, List.length_map]; unfold LIM; simp; omega
    · rw [← hcp, set_splitP _ _ _ h7, List.map_append, List.map_append, List.map_take, List.map_drop]; rfl
  refine q_par (d := encQ (qOf ps ds sp)) ((mBin_of (ev3 rfl rfl (show _ = some (D.tup [D.int sp]) from rfl) eS1) rfl).trans rfl) (ev2 rfl rfl eM2) ?_
  refine q_skip (not_like rfl (ev1 (ev1 (ev2 rfl rfl eMs2) eSi2) eT2) rfl rfl) ?_
  refine q_ret ((mBin_of (y := .bl true) (ev2 (d := .int (tr ((marks cp ds).map hI))) (d2 := .tup [encQ (sp, ((ps.getD sp (0, 0)).1, w), ds.getD sp 0, pa si sp)]) rfl ?_ hone) rfl).trans rfl)
  show (mCons _ _ _).bind _ = _
  rw [mCons_of (x := encQ (sp, ((ps.getD sp (0, 0)).1, w), ds.getD sp 0, pa si sp)) (xs := []) ?_ rfl]
  · rfl
  · rw [← hsi]
    refine (add_tup (xs := [.int sp, .int (ps.getD sp (0, 0)).1, .int w]) (add_tup (xs := [.int sp, .int (ps.getD sp (0, 0)).1]) (ys := [.int w]) rfl rfl (show 2 + 1 ≤ LIM by decide)) (ys := [.int (ds.getD sp 0), .tup ((pa ((marks ps ds).map hI) sp).map encS)]) rfl (show 3 + 2 ≤ LIM by decide)).trans rfl

theorem nat_of {x y : Int} (h : 0 < y) : ∃ n : Nat, x % y = n ∧ (n : Int) < y := by
  have h0 := Int.emod_nonneg x (show y ≠ 0 by omega)
  obtain ⟨n, hn⟩ := Int.eq_ofNat_of_zero_le h0
  exact ⟨n, hn, by rw [← hn]; exact Int.emod_lt_of_pos x h⟩
theorem law_true (ns : List Int) (hns : ns.length ≤ 63) : m_law [.scr ns] = some (.bl true) := by
  obtain ⟨row, rl, rb, er⟩ := E_row ns 60 (by decide)
  refine run_q rfl ?_
  unfold b_law
  show (sSq _ _ [.val (.scr ns), .emp, .emp, .emp, .emp, .emp, .emp, .emp, .emp, .emp, .emp]).map Prod.fst = _
  refine q_set (ev2 (d2 := .int (60 : Nat)) rfl rfl er) ?_
  obtain ⟨n0, hn0, bn0⟩ := nat_of (x := row.getD 0 0) (y := 12) (by decide)
  obtain ⟨c0, hc0, bc0⟩ := nat_of (x := row.getD 15 0) (y := 8) (by decide)
  refine q_par (d := .int ((1 + n0 : Nat))) (e := .int ((2 + c0 : Nat))) ?_ ?_ ?_
  · refine (mBin_of (x := .int 1) (y := .int n0) rfl (hn0 ▸ mod_of (row_int (row := row) (i := 0) rfl rfl (by omega)) rfl (by decide))).trans rfl
  · refine (mBin_of (x := .int 2) (y := .int c0) rfl (hc0 ▸ mod_of (row_int (row := row) (i := 15) rfl rfl (by omega)) rfl (by decide))).trans rfl
  generalize hn : 1 + n0 = n
  generalize hc : 2 + c0 = c
  generalize hxs : (List.range n).map (fun k => row.getD (1 + k) 0 % 256) = xs
  have lxs : xs.length = n := by rw [← hxs, List.length_map, List.length_range]
  refine q_set (ev1 (d := .lst (xs.map .int)) (mLc_of (rng_len (n := n) rfl (by omega)) ?_ (by rw [List.length_map]; unfold LIM; omega)) rfl) ?_
  · rw [← hxs, List.map_map]
    refine lcL_map (fun k : Nat => D.int k) (D.int ∘ fun k => row.getD (1 + k) 0 % 256) _ fun k hk => ?_
    have hk := List.mem_range.mp hk
    exact ⟨[.val (.scr ns), .val (.lst (row.map .int)), .val (.int n), .val (.int c), .emp, .emp, .emp, .emp, .emp, .emp, .val (.int k)], rfl, rfl, mod_of (row_int (row := row) (i := 1 + k) rfl rfl (by omega)) rfl (by decide)⟩
  obtain ⟨i0, hi0, bi0⟩ := nat_of (x := row.getD 13 0) (y := n) (by omega)
  refine q_set (d := .int i0) (hi0 ▸ mod_of (row_int (row := row) (i := 13) rfl rfl (by omega)) rfl (by omega)) ?_
  refine q_skip (not_t (ev1 rfl (E_tree_right xs (by omega) (by omega)))) ?_
  refine q_skip (not_t (ev3 (d := .tup (xs.map .int)) (d2 := .int i0) (d3 := .int ((xs.getD i0 0 + 1 + row.getD 14 0 % 255) % 256)) rfl rfl ?_ (E_edit_right xs i0 _ (by omega) (by omega)))) ?_
  · refine mod_of (ev1 (d := .int (xs.getD i0 0 + 1 + row.getD 14 0 % 255)) ((mBin_of (x := .int (xs.getD i0 0 + 1)) ((mBin_of (ix_nat (xs := xs.map .int) (i := i0) (d := .int (xs.getD i0 0)) rfl rfl (by rw [List.getElem?_map, getD_at (xs := xs) (z := (0 : Int)) (by omega)]; rfl)) rfl).trans rfl) (mod_of (row_int (row := row) (i := 14) rfl rfl (by omega)) rfl (by decide))).trans rfl) rfl) rfl (by decide)
  -- the paper
  generalize hps : (List.range c).map (fun k => (row.getD (16 + 3 * k) 0 % 16, row.getD (17 + 3 * k) 0 % 16)) = ps
  generalize hds : (List.range c).map (fun k => row.getD (18 + 3 * k) 0 % 16) = ds
  have lps : ps.length = c := by rw [← hps, List.length_map, List.length_range]
  have lds : ds.length = c := by rw [← hds, List.length_map, List.length_range]
  have m15 : ∀ x : Int, in15 (x % 16) := fun x => ⟨Int.emod_nonneg _ (by decide), by have := Int.emod_lt_of_pos x (show (0 : Int) < 16 by decide); omega⟩
  have pps : ∀ x ∈ ps, in15 x.1 ∧ in15 x.2 := fun x hx => by
    rw [← hps] at hx
    obtain ⟨k, _, rfl⟩ := List.mem_map.mp hx
    exact ⟨m15 _, m15 _⟩
  have pds : ∀ x ∈ ds, in15 x := fun x hx => by
    rw [← hds] at hx
    obtain ⟨k, _, rfl⟩ := List.mem_map.mp hx
    exact m15 _
  refine q_set (ev1 (d := .lst (ps.map encPr)) (mLc_of (rng_len (n := c) rfl (by omega)) ?_ (by rw [List.length_map]; unfold LIM; omega)) rfl) ?_
  · rw [← hps, List.map_map]
    refine lcL_map (fun k : Nat => D.int k) (encPr ∘ fun k => (row.getD (16 + 3 * k) 0 % 16, row.getD (17 + 3 * k) 0 % 16)) _ fun k hk => ?_
    have hk := List.mem_range.mp hk
    refine ⟨[.val (.scr ns), .val (.lst (row.map .int)), .val (.int n), .val (.int c), .val (.tup (xs.map .int)), .val (.int i0), .emp, .emp, .emp, .emp, .val (.int k)], rfl, rfl, ?_⟩
    show (mCons _ _ _).bind _ = _
    rw [mCons_of (mod_of (row_int (row := row) (i := 16 + 3 * k) rfl rfl (by omega)) rfl (by decide)) (mCons_of (mod_of (row_int (row := row) (i := 17 + 3 * k) rfl rfl (by omega)) rfl (by decide)) rfl)]
    rfl
  refine q_set (ev1 (d := .lst (ds.map .int)) (mLc_of (rng_len (n := c) rfl (by omega)) ?_ (by rw [List.length_map]; unfold LIM; omega)) rfl) ?_
  · rw [← hds, List.map_map]
    refine lcL_map (fun k : Nat => D.int k) (D.int ∘ fun k => row.getD (18 + 3 * k) 0 % 16) _ fun k hk => ?_
    have hk := List.mem_range.mp hk
    exact ⟨[.val (.scr ns), .val (.lst (row.map .int)), .val (.int n), .val (.int c), .val (.tup (xs.map .int)), .val (.int i0), .val (.tup (ps.map encPr)), .emp, .emp, .emp, .val (.int k)], rfl, rfl, mod_of (row_int (row := row) (i := 18 + 3 * k) rfl rfl (by omega)) rfl (by decide)⟩
  generalize hk0 : (List.range c).filter (fun k => row.getD (43 + k) 0 % 2 == 0) = ks0
  refine q_set (ev1 (d := .lst (ks0.map fun k : Nat => D.int k)) (mLc_of (rng_len (n := c) rfl (by omega)) (xs := (List.range c).map fun k : Nat => D.int k) ?_ ?_) rfl) ?_
  · rw [← hk0]
    refine lcL_filter (fun k : Nat => D.int k) _ _ _ fun k hk => ?_
    have hk := List.mem_range.mp hk
    refine ⟨[.val (.scr ns), .val (.lst (row.map .int)), .val (.int n), .val (.int c), .val (.tup (xs.map .int)), .val (.int i0), .val (.tup (ps.map encPr)), .val (.tup (ds.map .int)), .emp, .emp, .val (.int k)], rfl, ?_, fun _ => rfl⟩
    exact mTB_of ((mBin_of (mod_of (row_int (row := row) (i := 43 + k) rfl rfl (by omega)) rfl (by decide)) rfl).trans rfl)
  · rw [List.length_map, ← hk0]
    have := List.length_filter_le (fun k => row.getD (43 + k) 0 % 2 == 0) (List.range c)
    rw [List.length_range] at this
    unfold LIM; omega
  obtain ⟨j0, hj0, bj0⟩ := nat_of (x := row.getD 52 0) (y := c) (by omega)
  refine q_blk (fun Γ => ∃ ks : List Nat, (∀ k ∈ ks, k < c) ∧ ks.length ≤ 12 ∧ ks.Pairwise (· < ·) ∧ ks ≠ [] ∧ Γ = [.val (.scr ns), .val (.lst (row.map .int)), .val (.int n), .val (.int c), .val (.tup (xs.map .int)), .val (.int i0), .val (.tup (ps.map encPr)), .val (.tup (ds.map .int)), .val (.tup (ks.map fun k : Nat => D.int k)), .emp, .emp]) ?_ ?_
  · by_cases e : ks0 = []
    · refine ⟨_, (sIf_t ?_).trans (sSet_v (d := .tup ([j0].map fun k : Nat => D.int k)) ?_), [j0], fun k hk => by rw [List.mem_singleton.mp hk]; omega, (by show 1 ≤ 12; decide), List.pairwise_singleton _ _, List.cons_ne_nil _ _, rfl⟩
      · show some (((ks0.map fun k : Nat => D.int k).length : Int) == 0) = _
        rw [e]; rfl
      · show (mCons _ _ _).bind _ = _
        rw [mCons_of (x := .int j0) (hj0 ▸ mod_of (row_int (row := row) (i := 52) rfl rfl (by omega)) rfl (by omega)) rfl]
        rfl
    · refine ⟨_, (sIf_f ?_).trans rfl, ks0, fun k hk => ?_, ?_, ?_, e, rfl⟩
      · show some (((ks0.map fun k : Nat => D.int k).length : Int) == 0) = _
        have := List.length_pos_iff.mpr e
        rw [List.length_map, beq_eq_false_iff_ne.mpr (by omega)]
      · rw [← hk0] at hk
        exact List.mem_range.mp (List.mem_filter.mp hk).1
      · have := List.length_filter_le (fun k => row.getD (43 + k) 0 % 2 == 0) (List.range c)
        rw [hk0, List.length_range] at this
        omega
      · rw [← hk0]; exact List.Pairwise.filter _ List.pairwise_lt_range
  intro Γ ⟨ks, k3, k4, k5, k6, e⟩
  subst e
  obtain ⟨sp, hsp, bsp⟩ := nat_of (x := row.getD 53 0) (y := c) (by omega)
  refine q_set (d := .int sp) (hsp ▸ mod_of (row_int (row := row) (i := 53) rfl rfl (by omega)) rfl (by omega)) ?_
  have E := E_paper_right (ps := ps) (ds := ds) (ks := ks) sp (((ps.getD sp (0, 0)).2 + 1 + row.getD 54 0 % 15) % 16) (by omega) (by omega) (by omega) (fun k hk => by have := k3 k hk; omega) k4 k5 k6 (by omega) pps pds (m15 _)
  refine q_ret ((mCall_of (mCons_of rfl (mCons_of rfl (mCons_of rfl (mCons_of rfl (mCons_of (x := .int (((ps.getD sp (0, 0)).2 + 1 + row.getD 54 0 % 15) % 16)) ?_ rfl)))))).trans E)
  have e1 : mBin dIx (mVarB 6) (mVarB 9) [.val (.scr ns), .val (.lst (row.map .int)), .val (.int n), .val (.int c), .val (.tup (xs.map .int)), .val (.int i0), .val (.tup (ps.map encPr)), .val (.tup (ds.map .int)), .val (.tup (ks.map fun k : Nat => D.int k)), .val (.int sp), .emp] = some (encPr (ps.getD sp (0, 0))) := ix_nat (xs := ps.map encPr) (i := sp) rfl rfl (by rw [List.getElem?_map, getD_at (xs := ps) (by omega)]; rfl)
  exact mod_of (ev1 (d := .int ((ps.getD sp (0, 0)).2 + 1 + row.getD 54 0 % 15)) ((mBin_of (x := .int ((ps.getD sp (0, 0)).2 + 1)) ((mBin_of (x := .int (ps.getD sp (0, 0)).2) ((mBin_of e1 rfl).trans rfl) rfl).trans rfl) (mod_of (row_int (row := row) (i := 54) rfl rfl (by omega)) rfl (by decide))).trans rfl) rfl) rfl (by decide)
end K67

open PySem PySem.W PySem.Calls PyProof.Rows
set_option maxHeartbeats 0 in
theorem PySem.Challenge.cw_sealskept_k67_whole_trees_split_holds : PySem.Challenge.rw_sealskept_k67_whole_trees_split.Holds := by
  w_on; o_law
  refine HandSHeadRun.head_any (r := OpenLaw.row PySem.Challenge.rw_sealskept_k67_whole_trees_split) (q := view (OpenLaw.row PySem.Challenge.rw_sealskept_k67_whole_trees_split).prog [34]) (H := K67.hk) (ob := K67.ob) (M := 20000) (loose := K67.nms) (d := HandSHeadRun.topDef (OpenLaw.row PySem.Challenge.rw_sealskept_k67_whole_trees_split).prog 34) (kwd := []) K67.ob_eq
    (by kernel_rfl) (fun s => by kernel_rfl) K67.run (by kernel_rfl) (by kernel_rfl) (by kernel_rfl) (by rfl) (by first | assumption | decide +kernel) (by decide +kernel) ⟨rfl, rfl, rfl, rfl, rfl, by decide +kernel⟩ ?hw ?hc
  case hw => w_witness2
  case hc =>
    refine L2.walk_ofE (l := PySem.Challenge.rw_sealskept_k67_whole_trees_split) (n := 63) (k := 26) (x := "script") (CX := L2.CX0) rfl (by decide) (by kernel_rfl) ⟨rfl, by decide, by decide⟩ ?F (fun _ _ _ _ z => z)
    intro w mg fa h Y G hmg0
    obtain ⟨K, KX, c⟩ := Y
    have hmg : mg ("law" : PySem.Str) = some (.ref fa) := by
      have e : (HandSHeadRun.topDef (OpenLaw.row PySem.Challenge.rw_sealskept_k67_whole_trees_split).prog 34).name = ("law" : PySem.Str) := by kernel_rfl
      rw [← e]
      exact hmg0
    obtain ⟨T, hB⟩ := K67.facts KX G c
    have ef := hmg.symm.trans T.g_law
    cases ef
    exact ⟨K, T.fd_law, SK.spLaw K, KX, hB, fun H a ns hl _ hS => ⟨a, ns, rfl, hS, hl, fun _ => rfl⟩, fun base _ _ => SK.law_ok (K67.ok_law T) K67.law_true⟩

