import PyProof.Rows.All
import Wide.All
import OpenK.AllK
import Wide.FinOn
import HandS.ForMost
import HandS.Flow
import HandS.Style
import HandS.TupAny
import HandS.IsInst
import HandS.Walk
import HandS.Deep
import HandS.Conv
import HandS.Rev
import HandS.Zip
import HandS.NoneIn
import HandS.Sort
import HandS.SortKw
import HandS.TupMul
import HandS.TupSets
import HandS.SortRule
import HandS.SortInts
import KE.KStateDown
import HandS.Head0
import HandS.Head1
import HandS.Head2
import HandS.HeadEnd
import HandS.HeadHook1
import PySem.Challenge.RW_sealskept_k76_whole_all_put_together
set_option Elab.async false
set_option linter.all false
set_option maxRecDepth 100000
set_option maxHeartbeats 4000000
set_option autoImplicit false
namespace SK
open PySem PySem.Spec PyProof.Rows L2

/-! ### data without a heap -/
inductive D where
  | non | bl (b : Bool) | int (i : Int) | str (s : Str)
  | tup (xs : List D) | lst (xs : List D) | scr (ns : List Int)

def D.isM : D → Bool
  | .lst _ => true
  | _ => false
def D.scal : D → Bool
  | .non => true
  | .bl _ => true
  | .int _ => true
  | .str _ => true
  | _ => false

mutual
inductive Rep (K : PySem.W.Frag) (F : Hp) : V → D → Prop
  | non : Rep K F .non .non
  | bl (b : Bool) : Rep K F (.bl b) (.bl b)
  | int (i : Int) : Rep K F (.int i) (.int i)
  | str (x : Str) : Rep K F (.str x) (.str x)
  | scr {a : Addr} {ns : List Int} : SqL K F a (ns.map V.int) → Rep K F (.ref a) (.scr ns)
  | ob {a : Addr} {o : HO} {d : D} : F a = some o → ObR K F o d → Rep K F (.ref a) d
inductive ObR (K : PySem.W.Frag) (F : Hp) : HO → D → Prop
  | tup {vs : List V} {ds : List D} : RepL K F vs ds → ObR K F (.tup vs) (.tup ds)
  | lst {vs : List V} {ds : List D} : RepL K F vs ds → ObR K F (.lst vs) (.lst ds)
inductive RepL (K : PySem.W.Frag) (F : Hp) : List V → List D → Prop
  | nil : RepL K F [] []
  | cons {v : V} {vs : List V} {d : D} {ds : List D} : Rep K F v d → RepL K F vs ds → RepL K F (v :: vs) (d :: ds)
end

section
variable {K : PySem.W.Frag} {F F' H H' : Hp}
mutual
theorem Rep.mono (s : Same F F') : ∀ {v : V} {d : D}, Rep K F v d → Rep K F' v d
  | _, _, .non => .non
  | _, _, .bl b => .bl b
  | _, _, .int i => .int i
  | _, _, .str x => .str x
  | _, _, .scr h => .scr (s.seq h)
  | _, _, .ob h r => .ob (s _ _ h) (ObR.mono s r)
theorem ObR.mono (s : Same F F') : ∀ {o : HO} {d : D}, ObR K F o d → ObR K F' o d
  | _, _, .tup r => .tup (RepL.mono s r)
  | _, _, .lst r => .lst (RepL.mono s r)
theorem RepL.mono (s : Same F F') : ∀ {vs : List V} {ds : List D}, RepL K F vs ds → RepL K F' vs ds
  | _, _, .nil => .nil
  | _, _, .cons h r => .cons (Rep.mono s h) (RepL.mono s r)
end
theorem RepL.length : ∀ {vs : List V} {ds : List D}, RepL K F vs ds → vs.length = ds.length
  | _, _, .nil => rfl
  | _, _, .cons _ r => congrArg (· + 1) (RepL.length r)
theorem RepL.append : ∀ {vs ws : List V} {ds es : List D}, RepL K F vs ds → RepL K F ws es → RepL K F (vs ++ ws) (ds ++ es)
  | _, _, _, _, .nil, s => s
  | _, _, _, _, .cons h r, s => .cons h (RepL.append r s)
theorem RepL.get : ∀ {vs : List V} {ds : List D} {i : Nat} {d : D}, RepL K F vs ds → ds[i]? = some d → ∃ v, vs[i]? = some v ∧ Rep K F v d
  | _, _, _, _, .nil, e => by simp at e
  | _, _, 0, _, .cons h _, e => by simp at e; subst e; exact ⟨_, rfl, h⟩
  | _, _, i + 1, d, .cons _ r, e => by
    obtain ⟨v, h1, h2⟩ := RepL.get (i := i) (d := d) r (by simpa using e)
    exact ⟨v, by simpa using h1, h2⟩
theorem RepL.at' : ∀ {vs : List V} {ds : List D} {i : Nat} {v : V}, RepL K F vs ds → vs[i]? = some v → ∃ d, ds[i]? = some d ∧ Rep K F v d
  | _, _, _, _, .nil, e => by simp at e
  | _, _, 0, _, .cons h _, e => by simp at e; subst e; exact ⟨_, rfl, h⟩
  | _, _, i + 1, d, .cons _ r, e => by
    obtain ⟨v, h1, h2⟩ := RepL.at' (i := i) (v := d) r (by simpa using e)
    exact ⟨v, by simpa using h1, h2⟩
theorem RepL.set : ∀ {vs : List V} {ds : List D} {v : V} {d : D} (i : Nat), RepL K F vs ds → Rep K F v d → RepL K F (vs.set i v) (ds.set i d)
  | _, _, _, _, _, .nil, _ => .nil
  | _, _, _, _, 0, .cons _ r, h => .cons h r
  | _, _, _, _, i + 1, .cons q r, h => .cons q (RepL.set i r h)
theorem RepL.take : ∀ {vs : List V} {ds : List D} (n : Nat), RepL K F vs ds → RepL K F (vs.take n) (ds.take n)
  | _, _, 0, _ => .nil
  | _, _, _ + 1, .nil => .nil
  | _, _, n + 1, .cons h r => .cons h (RepL.take n r)
theorem RepL.drop : ∀ {vs : List V} {ds : List D} (n : Nat), RepL K F vs ds → RepL K F (vs.drop n) (ds.drop n)
  | _, _, 0, r => r
  | _, _, _ + 1, .nil => .nil
  | _, _, n + 1, .cons _ r => RepL.drop n r
theorem RepL.reverse {vs : List V} {ds : List D} (r : RepL K F vs ds) : RepL K F vs.reverse ds.reverse := by
  induction vs generalizing ds with
  | nil => cases r; exact .nil
  | cons v vs ih =>
    cases r with
    | cons h r =>
      rw [List.reverse_cons, List.reverse_cons]
      exact (ih r).append (.cons h .nil)
theorem RepL.flatRep {vs : List V} {ds : List D} (r : RepL K F vs ds) : ∀ n : Nat, RepL K F (List.replicate n vs).flatten (List.replicate n ds).flatten
  | 0 => .nil
  | n + 1 => by
    rw [List.replicate_succ, List.replicate_succ, List.flatten_cons, List.flatten_cons]
    exact r.append (RepL.flatRep r n)

theorem same_upd {H : Hp} {p : Addr} {o : HO} (h : H p = none) : Same H (upd H p o) := fun b x e => by
  rw [upd_ne (ne_of_none e h)]
  exact e

/-- the heap grows: F, what is known never to change, within H, what is tracked -/
structure Ext (F H F' H' : Hp) : Prop where
  f : Same F F'
  h : Same H H'
  fh : Same F' H'
  new : ∀ b o, F' b = some o → F b = none → H b = none
theorem Ext.refl (s : Same F H) : Ext F H F H := ⟨.refl _, .refl _, s, fun b o e n => by rw [n] at e; cases e⟩
theorem Ext.trans {F2 H2 : Hp} (a : Ext F H F' H') (b : Ext F' H' F2 H2) : Ext F H F2 H2 := by
  refine ⟨a.f.trans b.f, a.h.trans b.h, b.fh, fun c o e n => ?_⟩
  cases q : F' c with
  | none => exact a.h.free (b.new c o e q)
  | some u => exact a.new c u q n
/-- a new object, known never to change -/
theorem Ext.laid (s : Same F H) {p : Addr} {o : HO} (n : H p = none) : Ext F H (upd F p o) (upd H p o) := by
  refine ⟨same_upd (s.free n), same_upd n, fun b u e => ?_, fun b u e nb => ?_⟩
  · by_cases hb : b = p
    · subst hb; rw [upd_same] at e ⊢; exact e
    · rw [upd_ne hb] at e ⊢; exact s _ _ e
  · by_cases hb : b = p
    · subst hb; exact n
    · rw [upd_ne hb, nb] at e; cases e
/-- a new object that may change -/
theorem Ext.own (s : Same F H) {p : Addr} {o : HO} (n : H p = none) : Ext F H F (upd H p o) :=
  ⟨.refl _, same_upd n, s.trans (same_upd n), fun b u e nb => by rw [nb] at e; cases e⟩
/-- an object that might have changed is known not to change from here on -/
theorem Ext.freeze (s : Same F H) {p : Addr} {o : HO} (h : H p = some o) (n : F p = none) : Same F (upd F p o) ∧ Same (upd F p o) H := by
  refine ⟨same_upd n, fun b u e => ?_⟩
  by_cases hb : b = p
  · subst hb; rw [upd_same] at e; rw [← e]; exact h
  · rw [upd_ne hb] at e; exact s _ _ e

/-- a value that is read: known, or a list of one's own -/
def RepB (K : PySem.W.Frag) (F H : Hp) (v : V) (d : D) : Prop := Rep K F v d ∨ (d.isM = true ∧ ∃ a o, v = .ref a ∧ H a = some o ∧ ObR K F o d)
theorem RepB.ext (e : Ext F H F' H') {v : V} {d : D} : RepB K F H v d → RepB K F' H' v d
  | .inl r => .inl (r.mono e.f)
  | .inr ⟨m, a, o, h1, h2, h3⟩ => .inr ⟨m, a, o, h1, e.h _ _ h2, h3.mono e.f⟩
theorem RepB.int {v : V} {i : Int} (r : RepB K F H v (.int i)) : v = .int i := by
  rcases r with r | ⟨m, _⟩
  · cases r with
    | int => rfl
    | ob _ q => cases q
  · cases m
theorem RepB.bl {v : V} {i : Bool} (r : RepB K F H v (.bl i)) : v = .bl i := by
  rcases r with r | ⟨m, _⟩
  · cases r with
    | bl => rfl
    | ob _ q => cases q
  · cases m
theorem RepB.str {v : V} {i : Str} (r : RepB K F H v (.str i)) : v = .str i := by
  rcases r with r | ⟨m, _⟩
  · cases r with
    | str => rfl
    | ob _ q => cases q
  · cases m
theorem RepB.non {v : V} (r : RepB K F H v .non) : v = .non := by
  rcases r with r | ⟨m, _⟩
  · cases r with
    | non => rfl
    | ob _ q => cases q
  · cases m
theorem Rep.tupI {v : V} {ds : List D} (r : Rep K F v (.tup ds)) : ∃ a vs, v = .ref a ∧ F a = some (.tup vs) ∧ RepL K F vs ds := by
  cases r with
  | ob h q => cases q with | tup q => exact ⟨_, _, rfl, h, q⟩
theorem Rep.lstI {v : V} {ds : List D} (r : Rep K F v (.lst ds)) : ∃ a vs, v = .ref a ∧ F a = some (.lst vs) ∧ RepL K F vs ds := by
  cases r with
  | ob h q => cases q with | lst q => exact ⟨_, _, rfl, h, q⟩
theorem RepB.full {v : V} {d : D} (r : RepB K F H v d) (h : d.isM = false) : Rep K F v d := by
  rcases r with r | ⟨m, _⟩
  · exact r
  · rw [h] at m; cases m
theorem RepB.tup {v : V} {ds : List D} (r : RepB K F H v (.tup ds)) : ∃ a vs, v = .ref a ∧ F a = some (.tup vs) ∧ RepL K F vs ds := (r.full rfl).tupI
theorem RepB.lst (s : Same F H) {v : V} {ds : List D} (r : RepB K F H v (.lst ds)) : ∃ a vs, v = .ref a ∧ H a = some (.lst vs) ∧ RepL K F vs ds := by
  rcases r with r | ⟨m, a, o, rfl, h, q⟩
  · obtain ⟨a, vs, rfl, h, q⟩ := r.lstI
    exact ⟨a, vs, rfl, s _ _ h, q⟩
  · cases q with | lst q => exact ⟨a, _, rfl, h, q⟩
theorem Rep.scrI {v : V} {ns : List Int} (r : Rep K F v (.scr ns)) : ∃ a, v = .ref a ∧ SqL K F a (ns.map V.int) := by
  cases r with
  | scr h => exact ⟨_, rfl, h⟩
  | ob _ q => cases q
theorem Rep.any {v : V} {d : D} (h : d.scal = true) (r : Rep K F v d) : Rep K F' v d := by
  cases r with
  | non => exact .non
  | bl b => exact .bl b
  | int i => exact .int i
  | str x => exact .str x
  | scr _ => cases h
  | ob _ q => cases q <;> cases h
end

/-! ### the slots -/
inductive Slot where
  | emp | val (d : D) | own (d : D)
abbrev En := List Slot

def SlotOk (K : PySem.W.Frag) (F H H0 : Hp) (o : Option V) : Slot → Prop
  | .emp => True
  | .val d => ∃ v, o = some v ∧ Rep K F v d
  | .own d => d.isM = true ∧ ∃ a ob, o = some (.ref a) ∧ F a = none ∧ H0 a = none ∧ H a = some ob ∧ ObR K F ob d

/-- what the slots and the heap hold: H0 at the def's entry, F never to change, H now -/
structure Rel (K : PySem.W.Frag) (H0 F H : Hp) (σ : L2.St) (Γ : En) : Prop where
  h0 : Same H0 H
  fh : Same F H
  len : σ.length = Γ.length
  sl : ∀ (i : Nat) (s : Slot), Γ[i]? = some s → ∃ o, σ[i]? = some o ∧ SlotOk K F H H0 o s
  sep : ∀ (i j : Nat) (d e : D) (a : Addr), Γ[i]? = some (.own d) → Γ[j]? = some (.own e) → σ[i]? = some (some (.ref a)) → σ[j]? = some (some (.ref a)) → i = j

section
variable {K : PySem.W.Frag} {F F' H H' H0 : Hp} {σ : L2.St} {Γ : En}
theorem SlotOk.ext (e : Ext F H F' H') {o : Option V} {s : Slot} (h : SlotOk K F H H0 o s) : SlotOk K F' H' H0 o s := by
  cases s with
  | emp => trivial
  | val d => obtain ⟨v, h1, h2⟩ := h; exact ⟨v, h1, h2.mono e.f⟩
  | own d =>
    obtain ⟨m, a, ob, h1, h2, h3, h4, h5⟩ := h
    refine ⟨m, a, ob, h1, ?_, h3, e.h _ _ h4, h5.mono e.f⟩
    cases q : F' a with
    | none => rfl
    | some u => have := e.new a u q h2; rw [h4] at this; cases this
theorem Rel.ext (R : Rel K H0 F H σ Γ) (e : Ext F H F' H') : Rel K H0 F' H' σ Γ :=
  ⟨R.h0.trans e.h, e.fh, R.len, fun i s hi => by obtain ⟨o, h1, h2⟩ := R.sl i s hi; exact ⟨o, h1, h2.ext e⟩, R.sep⟩
theorem set_get {α : Type} {l : List α} {i j : Nat} {x y : α} (h : (l.set i x)[j]? = some y) : (i = j ∧ y = x ∧ i < l.length) ∨ (i ≠ j ∧ l[j]? = some y) := by
  rw [List.getElem?_set] at h
  by_cases e : i = j
  · subst e
    rw [if_pos rfl] at h
    by_cases q : i < l.length
    · rw [if_pos q] at h; cases h; exact .inl ⟨rfl, rfl, q⟩
    · rw [if_neg q] at h; cases h
  · rw [if_neg e] at h; exact .inr ⟨e, h⟩
theorem get_set {α : Type} {l : List α} {i : Nat} {x : α} (h : i < l.length) : (l.set i x)[i]? = some x := by
  rw [List.getElem?_set, if_pos rfl, if_pos h]
theorem get_set_ne {α : Type} {l : List α} {i j : Nat} {x : α} (h : i ≠ j) : (l.set i x)[j]? = l[j]? := by
  rw [List.getElem?_set, if_neg h]
theorem Rel.setVal (R : Rel K H0 F H σ Γ) (i : Nat) {v : V} {d : D} (r : Rep K F v d) : Rel K H0 F H (σ.set i (some v)) (Γ.set i (.val d)) := by
  refine ⟨R.h0, R.fh, by rw [List.length_set, List.length_set]; exact R.len, fun j s hj => ?_, fun j k d1 d2 a h1 h2 h3 h4 => ?_⟩
  · rcases set_get hj with ⟨rfl, rfl, hl⟩ | ⟨hne, hj⟩
    · exact ⟨some v, get_set (by rw [R.len]; exact hl), v, rfl, r⟩
    · obtain ⟨o, q1, q2⟩ := R.sl j s hj
      exact ⟨o, by rw [get_set_ne hne]; exact q1, q2⟩
  · rcases set_get h1 with ⟨_, e, _⟩ | ⟨n1, h1⟩
    · cases e
    · rcases set_get h2 with ⟨_, e, _⟩ | ⟨n2, h2⟩
      · cases e
      · rw [get_set_ne n1] at h3; rw [get_set_ne n2] at h4
        exact R.sep j k d1 d2 a h1 h2 h3 h4
/-- a new object of one's own in a slot -/
theorem Rel.setOwn (R : Rel K H0 F H σ Γ) (i : Nat) {a : Addr} {o : HO} {d : D} (m : d.isM = true) (fa : F a = none) (h0 : H0 a = none) (ha : H a = some o) (r : ObR K F o d)
    (n : ∀ (j : Nat) (e : D), Γ[j]? = some (.own e) → σ[j]? ≠ some (some (.ref a))) : Rel K H0 F H (σ.set i (some (.ref a))) (Γ.set i (.own d)) := by
  refine ⟨R.h0, R.fh, by rw [List.length_set, List.length_set]; exact R.len, fun j s hj => ?_, fun j k d1 d2 b h1 h2 h3 h4 => ?_⟩
  · rcases set_get hj with ⟨rfl, rfl, hl⟩ | ⟨hne, hj⟩
    · exact ⟨some (.ref a), get_set (by rw [R.len]; exact hl), m, a, o, rfl, fa, h0, ha, r⟩
    · obtain ⟨o, q1, q2⟩ := R.sl j s hj
      exact ⟨o, by rw [get_set_ne hne]; exact q1, q2⟩
  · rcases set_get h1 with ⟨e1, _, l1⟩ | ⟨n1, h1⟩
    · rcases set_get h2 with ⟨e2, _, _⟩ | ⟨n2, h2⟩
      · exact e1.symm.trans e2
      · subst e1
        rw [get_set (by rw [R.len]; exact l1)] at h3
        rw [get_set_ne n2] at h4
        injection h3 with h3; injection h3 with h3; injection h3 with h3
        subst h3
        exact absurd h4 (n k d2 h2)
    · rcases set_get h2 with ⟨e2, _, l2⟩ | ⟨n2, h2⟩
      · subst e2
        rw [get_set (by rw [R.len]; exact l2)] at h4
        rw [get_set_ne n1] at h3
        injection h4 with h4; injection h4 with h4; injection h4 with h4
        subst h4
        exact absurd h3 (n j d1 h1)
      · rw [get_set_ne n1] at h3; rw [get_set_ne n2] at h4
        exact R.sep j k d1 d2 b h1 h2 h3 h4
/-- an object that no slot has as its own is laid or changed -/
theorem Rel.updOff (R : Rel K H0 F H σ Γ) {a : Addr} {o : HO} (fa : F a = none) (h0 : H0 a = none) (n : ∀ (j : Nat) (e : D), Γ[j]? = some (.own e) → σ[j]? ≠ some (some (.ref a))) : Rel K H0 F (upd H a o) σ Γ := by
  have sf : ∀ G : Hp, G a = none → Same G H → Same G (upd H a o) := fun G g s b u e => by
    rw [upd_ne (ne_of_none e g)]; exact s _ _ e
  refine ⟨sf _ h0 R.h0, sf _ fa R.fh, R.len, fun i s hi => ?_, R.sep⟩
  obtain ⟨q, h1, h2⟩ := R.sl i s hi
  refine ⟨q, h1, ?_⟩
  cases s with
  | emp => trivial
  | val d => exact h2
  | own d =>
    obtain ⟨m, b, ob, e1, e2, e3, e4, e5⟩ := h2
    refine ⟨m, b, ob, e1, e2, e3, ?_, e5⟩
    rw [upd_ne (fun z => n i d hi (by rw [h1, e1, z]))]
    exact e4
/-- an object of a slot's own is changed -/
theorem Rel.updOwn (R : Rel K H0 F H σ Γ) {i : Nat} {a : Addr} {o : HO} {d d' : D} (hi : Γ[i]? = some (.own d)) (hs : σ[i]? = some (some (.ref a))) (m : d'.isM = true) (r : ObR K F o d') :
    Rel K H0 F (upd H a o) σ (Γ.set i (.own d')) := by
  obtain ⟨q, h1, m0, b, ob, e1, e2, e3, e4, e5⟩ := R.sl i _ hi
  rw [hs] at h1
  injection h1 with h1
  subst h1
  injection e1 with e1
  injection e1 with e1
  subst e1
  have sf : ∀ G : Hp, G a = none → Same G H → Same G (upd H a o) := fun G g s b u e => by
    rw [upd_ne (ne_of_none e g)]; exact s _ _ e
  refine ⟨sf _ e3 R.h0, sf _ e2 R.fh, by rw [List.length_set]; exact R.len, fun j s hj => ?_, fun j k d1 d2 b h1 h2 h3 h4 => ?_⟩
  · rcases set_get hj with ⟨rfl, rfl, hl⟩ | ⟨hne, hj⟩
    · exact ⟨_, hs, m, a, o, rfl, e2, e3, upd_same, r⟩
    · obtain ⟨u, q1, q2⟩ := R.sl j s hj
      refine ⟨u, q1, ?_⟩
      cases s with
      | emp => trivial
      | val d => exact q2
      | own d1 =>
        obtain ⟨m1, b1, ob1, f1, f2, f3, f4, f5⟩ := q2
        refine ⟨m1, b1, ob1, f1, f2, f3, ?_, f5⟩
        rw [upd_ne (fun z => hne (R.sep i j d d1 a hi hj hs (by rw [q1, f1, z])))]
        exact f4
  · have g : ∀ {x : Nat} {e : D}, (Γ.set i (.own d'))[x]? = some (.own e) → ∃ e', Γ[x]? = some (.own e') := fun {x e} h => by
      rcases set_get h with ⟨rfl, _, _⟩ | ⟨_, h⟩
      · exact ⟨d, hi⟩
      · exact ⟨_, h⟩
    obtain ⟨e1', g1⟩ := g h1
    obtain ⟨e2', g2⟩ := g h2
    exact R.sep j k _ _ b g1 g2 h3 h4
theorem Rel.ownAt (R : Rel K H0 F H σ Γ) {i : Nat} {d : D} (hi : Γ[i]? = some (.own d)) : d.isM = true ∧ ∃ a ob, σ[i]? = some (some (.ref a)) ∧ F a = none ∧ H0 a = none ∧ H a = some ob ∧ ObR K F ob d := by
  obtain ⟨q, h1, m0, b, ob, e1, e2, e3, e4, e5⟩ := R.sl i _ hi
  exact ⟨m0, b, ob, by rw [h1, e1], e2, e3, e4, e5⟩
theorem Rel.valAt (R : Rel K H0 F H σ Γ) {i : Nat} {d : D} (hi : Γ[i]? = some (.val d)) : ∃ v, σ[i]? = some (some v) ∧ Rep K F v d := by
  obtain ⟨q, h1, v, e1, e2⟩ := R.sl i _ hi
  exact ⟨v, by rw [h1, e1], e2⟩
theorem Rel.newOff (R : Rel K H0 F H σ Γ) {a : Addr} (n : H a = none) : ∀ (j : Nat) (e : D), Γ[j]? = some (.own e) → σ[j]? ≠ some (some (.ref a)) := fun j e hj hs => by
  obtain ⟨_, b, ob, h1, _, _, h4, _⟩ := R.ownAt hj
  rw [h1] at hs
  injection hs with hs; injection hs with hs; injection hs with hs
  subst hs
  rw [n] at h4; cases h4
/-- what a slot has as its own is given up -/
def frz1 (i : Nat) (Γ : En) : En := match Γ[i]? with
  | some (.own d) => Γ.set i (.val d)
  | _ => Γ
theorem Rel.freeze (R : Rel K H0 F H σ Γ) (i : Nat) : ∃ F', Same F F' ∧ (∀ b o, F' b = some o → F b = none → H0 b = none) ∧ Rel K H0 F' H σ (frz1 i Γ) := by
  unfold frz1
  split
  · rename_i d hi
    obtain ⟨m0, a, ob, h1, h2, h3, h4, h5⟩ := R.ownAt hi
    obtain ⟨s1, s2⟩ := Ext.freeze R.fh h4 h2
    refine ⟨upd F a ob, s1, fun b o e n => ?_, R.h0, s2, by rw [List.length_set]; exact R.len, fun j s hj => ?_, fun j k d1 d2 b g1 g2 g3 g4 => ?_⟩
    · by_cases hb : b = a
      · subst hb; exact h3
      · rw [upd_ne hb, n] at e; cases e
    · rcases set_get hj with ⟨rfl, rfl, hl⟩ | ⟨hne, hj⟩
      · exact ⟨_, h1, _, rfl, .ob upd_same (h5.mono s1)⟩
      · obtain ⟨u, q1, q2⟩ := R.sl j s hj
        refine ⟨u, q1, ?_⟩
        cases s with
        | emp => trivial
        | val d => obtain ⟨v, z1, z2⟩ := q2; exact ⟨v, z1, z2.mono s1⟩
        | own d1 =>
          obtain ⟨m1, b1, ob1, f1, f2, f3, f4, f5⟩ := q2
          refine ⟨m1, b1, ob1, f1, ?_, f3, f4, f5.mono s1⟩
          rw [upd_ne (fun z => hne (R.sep i j d d1 a hi hj h1 (by rw [q1, f1, z])))]
          exact f2
    · have g : ∀ {x : Nat} {e : D}, (Γ.set i (.val d))[x]? = some (.own e) → Γ[x]? = some (.own e) := fun {x e} h => by
        rcases set_get h with ⟨_, h, _⟩ | ⟨_, h⟩
        · cases h
        · exact h
      exact R.sep j k _ _ b (g g1) (g g2) g3 g4
  · exact ⟨F, .refl _, fun b o e n => (by rw [n] at e; cases e), R⟩
end
end SK

set_option Elab.async false
set_option linter.all false
set_option maxRecDepth 100000
set_option maxHeartbeats 4000000
set_option autoImplicit false
namespace SK
open PySem PySem.Spec PyProof.Rows L2

/-! ### readings -/
abbrev ME := En → Option D
abbrev MA := En → Option (List D)
/-- a value known never to change -/
def rdE (K : PySem.W.Frag) (m : ME) : TE := fun σ H Q => ∃ H0 F Γ d, Rel K H0 F H σ Γ ∧ m Γ = some d ∧ ∀ v H' F', Ext F H F' H' → Rep K F' v d → Q v H'
/-- a value that is read at once -/
def rdB (K : PySem.W.Frag) (m : ME) : TE := fun σ H Q => ∃ H0 F Γ d, Rel K H0 F H σ Γ ∧ m Γ = some d ∧ ∀ v H' F', Ext F H F' H' → RepB K F' H' v d → Q v H'
/-- a new object of one's own -/
def rdN (K : PySem.W.Frag) (m : ME) : TE := fun σ H Q => ∃ H0 F Γ d, Rel K H0 F H σ Γ ∧ m Γ = some d ∧ ∀ a o H' F', Ext F H F' H' → H a = none → F' a = none → H' a = some o → d.isM = true → ObR K F' o d → Q (.ref a) H'
/-- arguments -/
def rdA (K : PySem.W.Frag) (m : MA) : TA := fun σ H Q => ∃ H0 F Γ ds, Rel K H0 F H σ Γ ∧ m Γ = some ds ∧ ∀ vs H' F', Ext F H F' H' → RepL K F' vs ds → Q vs H'
inductive RepBL (K : PySem.W.Frag) (F H : Hp) : List V → List D → Prop
  | nil : RepBL K F H [] []
  | cons {v : V} {vs : List V} {d : D} {ds : List D} : RepB K F H v d → RepBL K F H vs ds → RepBL K F H (v :: vs) (d :: ds)
def rdAB (K : PySem.W.Frag) (m : MA) : TA := fun σ H Q => ∃ H0 F Γ ds, Rel K H0 F H σ Γ ∧ m Γ = some ds ∧ ∀ vs H' F', Ext F H F' H' → RepBL K F' H' vs ds → Q vs H'
/-- a test -/
def rdT (K : PySem.W.Frag) (m : En → Option Bool) : TT := fun σ H Q => ∃ H0 F Γ b, Rel K H0 F H σ Γ ∧ m Γ = some b ∧ ∀ H' F', Ext F H F' H' → Q b H'

section
variable {X : Cx} {e : Expr}
theorem _root_.L2.PE.wk {t t' : TE} (h : PE X e t) (w : ∀ σ H Q, t' σ H Q → t σ H Q) : PE X e t' := ⟨fun pins s σ H Q I q => h.run pins s σ H Q I (w _ _ _ q)⟩
theorem _root_.L2.PT.wk {t t' : TT} (h : PT X e t) (w : ∀ σ H Q, t' σ H Q → t σ H Q) : PT X e t' := ⟨fun pins s σ H Q I q => h.run pins s σ H Q I (w _ _ _ q)⟩
theorem _root_.L2.PW.wk {t t' : TT} (h : PW X e t) (w : ∀ σ H Q, t' σ H Q → t σ H Q) : PW X e t' := ⟨fun wh pins s σ H Q I q => h.run wh pins s σ H Q I (w _ _ _ q)⟩
theorem _root_.L2.PA.wk {es : List Expr} {t t' : TA} (h : PA X es t) (w : ∀ σ H Q, t' σ H Q → t σ H Q) : PA X es t' := ⟨fun p pins s σ H Q I q => h.run p pins s σ H Q I (w _ _ _ q)⟩
theorem toB {m : ME} (h : PE X e (rdE X.K m)) : PE X e (rdB X.K m) := h.wk fun σ H Q ⟨H0, F, Γ, d, R, z, q⟩ => ⟨H0, F, Γ, d, R, z, fun v H' F' x r => q v H' F' x (.inl r)⟩
theorem ofN {m : ME} (h : PE X e (rdN X.K m)) : PE X e (rdE X.K m) := h.wk fun σ H Q ⟨H0, F, Γ, d, R, z, q⟩ => ⟨H0, F, Γ, d, R, z, fun a o H' F' x n fa ha m r => by
  obtain ⟨s1, s2⟩ := Ext.freeze x.fh ha fa
  refine q (.ref a) H' (upd F' a o) ⟨x.f.trans s1, x.h, s2, fun b u q nb => ?_⟩ (.ob upd_same (r.mono s1))
  by_cases hb : b = a
  · subst hb; exact n
  · rw [upd_ne hb] at q; exact x.new b u q nb⟩
end

/-! ### names, constants -/
def mVar (i : Nat) : ME := fun Γ => match Γ[i]? with
  | some (.val d) => some d
  | _ => none
def mVarB (i : Nat) : ME := fun Γ => match Γ[i]? with
  | some (.val d) => some d
  | some (.own d) => some d
  | _ => none
def mC (d : D) : ME := fun _ => some d
section
variable {X : Cx} {x : Str} {pos : Pos}
theorem r_var (i : Nat) (hN : X.N[i]? = some x := by rfl) (hv : Vis X.env.scope x := by first | exact Or.inl rfl | exact Or.inr (Or.inl rfl) | exact Or.inr (Or.inr rfl)) (hd : (x == ("__debug__" : Str)) = false := by decide)
    (hcd : (x == ("__classdict__" : Str)) = false := by decide) : PE X (.Name x pos) (rdE X.K (mVar i)) :=
  PE.wk (pe_var hN hv hd hcd) fun σ H Q ⟨H0, F, Γ, d, R, z, q⟩ => by
    unfold mVar at z
    split at z
    · rename_i d' hi
      cases z
      obtain ⟨v, h1, h2⟩ := R.valAt hi
      exact ⟨v, h1, q v H F (.refl R.fh) h2⟩
    · cases z
theorem r_varB (i : Nat) (hN : X.N[i]? = some x := by rfl) (hv : Vis X.env.scope x := by first | exact Or.inl rfl | exact Or.inr (Or.inl rfl) | exact Or.inr (Or.inr rfl)) (hd : (x == ("__debug__" : Str)) = false := by decide)
    (hcd : (x == ("__classdict__" : Str)) = false := by decide) : PE X (.Name x pos) (rdB X.K (mVarB i)) :=
  PE.wk (pe_var hN hv hd hcd) fun σ H Q ⟨H0, F, Γ, d, R, z, q⟩ => by
    unfold mVarB at z
    split at z
    · rename_i d' hi
      cases z
      obtain ⟨v, h1, h2⟩ := R.valAt hi
      exact ⟨v, h1, q v H F (.refl R.fh) (.inl h2)⟩
    · rename_i d' hi
      cases z
      obtain ⟨m, a, ob, h1, h2, h3, h4, h5⟩ := R.ownAt hi
      exact ⟨.ref a, h1, q _ H F (.refl R.fh) (.inr ⟨m, a, ob, rfl, h4, h5⟩)⟩
    · cases z
theorem rC {e : Expr} {v : V} {d : D} (h : PE X e (tC v)) (r : ∀ F, Rep X.K F v d) : PE X e (rdE X.K (mC d)) :=
  PE.wk h fun σ H Q ⟨H0, F, Γ, d, R, z, q⟩ => by
    cases z
    exact q v H F (.refl R.fh) (r F)
theorem r_int {i j} : PE X (.Constant (.int i) j pos) (rdE X.K (mC (.int i))) := rC pe_int fun _ => .int i
theorem r_bl {b j} : PE X (.Constant (.bool b) j pos) (rdE X.K (mC (.bl b))) := rC pe_bl fun _ => .bl b
theorem r_non {j} : PE X (.Constant .none j pos) (rdE X.K (mC .non)) := rC pe_non fun _ => .non
theorem r_str {s j} : PE X (.Constant (.str s) j pos) (rdE X.K (mC (.str s))) := rC pe_str fun _ => .str s
/-- a module's int -/
theorem r_glob {i : Int} {t : Tok} (hg : Gl X x) (hm : X.mg x = some (.int i t)) (hd : (x == ("__debug__" : Str)) = false := by decide) : PE X (.Name x pos) (rdE X.K (mC (.int i))) :=
  rC (pe_glob hg hm (show RelV (.int i) (.int i t) from ⟨t, rfl⟩) hd) fun _ => .int i
end

/-! ### two operands -/
def mBin (f : D → D → Option D) (a b : ME) : ME := fun Γ => (a Γ).bind fun x => (b Γ).bind fun y => f x y
def mUn (f : D → Option D) (a : ME) : ME := fun Γ => (a Γ).bind f
/-- an operation by data: r, HandS's reading, holds where f says what comes -/
def Op2 (K : PySem.W.Frag) (f : D → D → Option D) (r : R2) : Prop :=
  ∀ F H x y dx dy d Q, Same F H → RepB K F H x dx → RepB K F H y dy → f dx dy = some d → (∀ v H' F', Ext F H F' H' → Rep K F' v d → Q v H') → r x y H Q
def Op2N (K : PySem.W.Frag) (f : D → D → Option D) (r : R2) : Prop :=
  ∀ F H x y dx dy d Q, Same F H → RepB K F H x dx → RepB K F H y dy → f dx dy = some d → (∀ a o H' F', Ext F H F' H' → H a = none → F' a = none → H' a = some o → d.isM = true → ObR K F' o d → Q (.ref a) H') → r x y H Q
section
variable {X : Cx} {a b c : Expr} {pos : Pos} {ma mb mc : ME} {f g : D → D → Option D} {r r' : R2}
theorem two (hf : Op2 X.K f r) {σ H Q} (h : rdE X.K (mBin f ma mb) σ H Q) : tOp r (rdB X.K ma) (rdB X.K mb) σ H Q := by
  obtain ⟨H0, F, Γ, d, R, z, q⟩ := h
  obtain ⟨dx, ex, z⟩ := Option.bind_eq_some_iff.mp z
  obtain ⟨dy, ey, z⟩ := Option.bind_eq_some_iff.mp z
  exact ⟨H0, F, Γ, dx, R, ex, fun x H1 F1 E1 rx => ⟨H0, F1, Γ, dy, R.ext E1, ey, fun y H2 F2 E2 ry => hf F2 H2 x y dx dy d Q E2.fh (rx.ext E2) ry z fun v H' F' E3 rv => q v H' F' ((E1.trans E2).trans E3) rv⟩⟩
theorem twoN (hf : Op2N X.K f r) {σ H Q} (h : rdN X.K (mBin f ma mb) σ H Q) : tOp r (rdB X.K ma) (rdB X.K mb) σ H Q := by
  obtain ⟨H0, F, Γ, d, R, z, q⟩ := h
  obtain ⟨dx, ex, z⟩ := Option.bind_eq_some_iff.mp z
  obtain ⟨dy, ey, z⟩ := Option.bind_eq_some_iff.mp z
  exact ⟨H0, F, Γ, dx, R, ex, fun x H1 F1 E1 rx => ⟨H0, F1, Γ, dy, R.ext E1, ey, fun y H2 F2 E2 ry => hf F2 H2 x y dx dy d Q E2.fh (rx.ext E2) ry z fun a o H' F' E3 n => q a o H' F' ((E1.trans E2).trans E3) ((E1.trans E2).h.free n)⟩⟩
theorem one {h : V → Hp → VK → Prop} {f : D → Option D} (hf : ∀ F H x dx d Q, Same F H → RepB X.K F H x dx → f dx = some d → (∀ v H' F', Ext F H F' H' → Rep X.K F' v d → Q v H') → h x H Q) {σ H Q} (z : rdE X.K (mUn f ma) σ H Q) :
    rdB X.K ma σ H fun x H1 => h x H1 Q := by
  obtain ⟨H0, F, Γ, d, R, z, q⟩ := z
  obtain ⟨dx, ex, z⟩ := Option.bind_eq_some_iff.mp z
  exact ⟨H0, F, Γ, dx, R, ex, fun x H1 F1 E1 rx => hf F1 H1 x dx d Q E1.fh rx z fun v H' F' E3 rv => q v H' F' (E1.trans E3) rv⟩
theorem oneN {h : V → Hp → VK → Prop} {f : D → Option D} (hf : ∀ F H x dx d Q, Same F H → RepB X.K F H x dx → f dx = some d → (∀ a o H' F', Ext F H F' H' → H a = none → F' a = none → H' a = some o → d.isM = true → ObR X.K F' o d → Q (.ref a) H') → h x H Q) {σ H Q} (z : rdN X.K (mUn f ma) σ H Q) :
    rdB X.K ma σ H fun x H1 => h x H1 Q := by
  obtain ⟨H0, F, Γ, d, R, z, q⟩ := z
  obtain ⟨dx, ex, z⟩ := Option.bind_eq_some_iff.mp z
  exact ⟨H0, F, Γ, dx, R, ex, fun x H1 F1 E1 rx => hf F1 H1 x dx d Q E1.fh rx z fun a o H' F' E3 n => q a o H' F' (E1.trans E3) (E1.h.free n)⟩

theorem r_bin {op : Operator} (ho : OpR X (binaryOp op) r) (hf : Op2 X.K f r) (ha : PE X a (rdB X.K ma)) (hb : PE X b (rdB X.K mb)) : PE X (.BinOp a op b pos) (rdE X.K (mBin f ma mb)) :=
  PE.wk (pe_op ho ha hb) fun _ _ _ h => two hf h
theorem r_binN {op : Operator} (ho : OpR X (binaryOp op) r) (hf : Op2N X.K f r) (ha : PE X a (rdB X.K ma)) (hb : PE X b (rdB X.K mb)) : PE X (.BinOp a op b pos) (rdN X.K (mBin f ma mb)) :=
  PE.wk (pe_op ho ha hb) fun _ _ _ h => twoN hf h
theorem r_cmp {op : CmpOp} (ho : OpR X (compareOp op) r) (hf : Op2 X.K f r) (ha : PE X a (rdB X.K ma)) (hb : PE X b (rdB X.K mb)) (hm : behindInMarks op b = false) : PE X (.Compare a [op] [b] pos) (rdE X.K (mBin f ma mb)) :=
  PE.wk (pe_cmpR ho ha hb hm) fun _ _ _ h => two hf h
end

/-! ### ints -/
def fI (g : Int → Int → Option D) : D → D → Option D
  | .int i, .int j => g i j
  | _, _ => none
theorem op2I {K : PySem.W.Frag} {g : Int → Int → Option D} {C : Int → Int → Prop} {h : Int → Int → Int} (hg : ∀ i j d, g i j = some d → C i j ∧ d = .int (h i j)) : Op2 K (fI g) (rI C fun i j => .int (h i j)) := by
  intro F H x y dx dy d Q s rx ry e q
  unfold fI at e
  split at e
  · obtain ⟨c, rfl⟩ := hg _ _ _ e
    exact ⟨_, _, rx.int, ry.int, c, q _ H F (.refl s) (.int _)⟩
  · cases e
theorem op2I0 {K : PySem.W.Frag} {g : Int → Int → Option D} {h : Int → Int → Int} (hg : ∀ i j d, g i j = some d → d = .int (h i j)) : Op2 K (fI g) (rI0 fun i j => .int (h i j)) := by
  intro F H x y dx dy d Q s rx ry e q
  unfold fI at e
  split at e
  · cases hg _ _ _ e
    exact ⟨_, _, rx.int, ry.int, q _ H F (.refl s) (.int _)⟩
  · cases e
theorem op2B0 {K : PySem.W.Frag} {g : Int → Int → Option D} {h : Int → Int → Bool} (hg : ∀ i j d, g i j = some d → d = .bl (h i j)) : Op2 K (fI g) (rI0 fun i j => .bl (h i j)) := by
  intro F H x y dx dy d Q s rx ry e q
  unfold fI at e
  split at e
  · cases hg _ _ _ e
    exact ⟨_, _, rx.int, ry.int, q _ H F (.refl s) (.bl _)⟩
  · cases e
theorem some_eq {α : Type} {a b : α} (h : some a = some b) : b = a := (Option.some.inj h).symm
def dSub := fI fun i j => some (.int (i - j))
def okMul (i j : Int) : Bool := decide (i.natAbs < 2 ^ 64) || decide (j.natAbs < 2 ^ 64)
def dMulI := fI fun i j => if okMul i j then some (.int (i * j)) else none
def dDiv := fI fun i j => if decide (0 < j) && decide (j < 1073741824) then some (.int (i / j)) else none
def dMod := fI fun i j => if decide (0 < j) then some (.int (i % j)) else none
def dPow := fI fun i j => if decide (0 ≤ j) && decide (j ≤ 1000000) && decide (i.natAbs < 2 ^ 64) then some (.int (i ^ j.toNat)) else none
def dShl := fI fun i j => if decide (0 ≤ j) && decide (j ≤ 1000000) && decide (i.natAbs < 2 ^ 64) then some (.int (i * 2 ^ j.toNat)) else none
def dShr := fI fun i j => if decide (0 ≤ j) then some (.int (i / 2 ^ j.toNat)) else none
def dAnd := fI fun i j => some (.int (Builtin.bitAnd i j))
def dOr := fI fun i j => some (.int (Builtin.bitOr i j))
def dXor := fI fun i j => some (.int (Builtin.bitXor i j))
def dLt := fI fun i j => some (.bl (decide (i < j)))
def dLe := fI fun i j => some (.bl (decide (i ≤ j)))
def dGt := fI fun i j => some (.bl (decide (j < i)))
def dGe := fI fun i j => some (.bl (decide (j ≤ i)))
theorem ite_some {c : Bool} {a b : D} (h : (if c then some a else none) = some b) : c = true ∧ b = a := by
  cases c
  · cases h
  · exact ⟨rfl, (Option.some.inj h).symm⟩
theorem two64 : (2 : Nat) ^ 64 = 18446744073709551616 := by decide
theorem two64i : (2 : Int) ^ 64 = 18446744073709551616 := by decide
theorem cmul_of {i j : Int} (h : okMul i j = true) : CMul i j := by
  unfold okMul at h
  unfold CMul
  rcases Bool.or_eq_true_iff.mp h with h | h
  · have h := of_decide_eq_true h
    rw [two64] at h
    exact .inl (by rw [two64i]; omega)
  · have h := of_decide_eq_true h
    rw [two64] at h
    exact .inr (by rw [two64i]; omega)
section
variable {K : PySem.W.Frag}
theorem d_sub : Op2 K dSub (rI0 fun i j => .int (i - j)) := op2I0 fun _ _ _ h => some_eq h
theorem d_mulI : Op2 K dMulI (rI CMul fun i j => .int (i * j)) := op2I fun i j d h => by
  obtain ⟨c, e⟩ := ite_some h
  exact ⟨cmul_of c, e⟩
theorem d_div : Op2 K dDiv (rI CDiv fun i j => .int (i / j)) := op2I fun i j d h => by
  obtain ⟨c, e⟩ := ite_some h
  obtain ⟨c1, c2⟩ := Bool.and_eq_true_iff.mp c
  exact ⟨⟨of_decide_eq_true c1, of_decide_eq_true c2⟩, e⟩
theorem d_mod : Op2 K dMod (rI (fun _ j => 0 < j) fun i j => .int (i % j)) := op2I fun i j d h => by
  obtain ⟨c, e⟩ := ite_some h
  exact ⟨of_decide_eq_true c, e⟩
theorem d_pow : Op2 K dPow (rI CPow fun i j => .int (i ^ j.toNat)) := op2I fun i j d h => by
  obtain ⟨c, e⟩ := ite_some h
  obtain ⟨c, c3⟩ := Bool.and_eq_true_iff.mp c
  obtain ⟨c1, c2⟩ := Bool.and_eq_true_iff.mp c
  exact ⟨⟨of_decide_eq_true c1, of_decide_eq_true c2, of_decide_eq_true c3⟩, e⟩
theorem d_shl : Op2 K dShl (rI CPow fun i j => .int (i * 2 ^ j.toNat)) := op2I fun i j d h => by
  obtain ⟨c, e⟩ := ite_some h
  obtain ⟨c, c3⟩ := Bool.and_eq_true_iff.mp c
  obtain ⟨c1, c2⟩ := Bool.and_eq_true_iff.mp c
  exact ⟨⟨of_decide_eq_true c1, of_decide_eq_true c2, of_decide_eq_true c3⟩, e⟩
theorem d_shr : Op2 K dShr (rI (fun _ j => 0 ≤ j) fun i j => .int (i / 2 ^ j.toNat)) := op2I fun i j d h => by
  obtain ⟨c, e⟩ := ite_some h
  exact ⟨of_decide_eq_true c, e⟩
theorem d_and : Op2 K dAnd (rI0 fun i j => .int (Builtin.bitAnd i j)) := op2I0 fun _ _ _ h => some_eq h
theorem d_or : Op2 K dOr (rI0 fun i j => .int (Builtin.bitOr i j)) := op2I0 fun _ _ _ h => some_eq h
theorem d_xor : Op2 K dXor (rI0 fun i j => .int (Builtin.bitXor i j)) := op2I0 fun _ _ _ h => some_eq h
theorem d_lt : Op2 K dLt (rI0 fun i j => .bl (decide (i < j))) := op2B0 fun _ _ _ h => some_eq h
theorem d_le : Op2 K dLe (rI0 fun i j => .bl (decide (i ≤ j))) := op2B0 fun _ _ _ h => some_eq h
theorem d_gt : Op2 K dGt (rI0 fun i j => .bl (decide (j < i))) := op2B0 fun _ _ _ h => some_eq h
theorem d_ge : Op2 K dGe (rI0 fun i j => .bl (decide (j ≤ i))) := op2B0 fun _ _ _ h => some_eq h
end

/-! ### + of anything; * of a sequence -/
def LIM : Nat := 16777216
theorem lim_line : LIM = sizeLine := by decide
def dAdd : D → D → Option D
  | .int i, .int j => some (.int (i + j))
  | .tup xs, .tup ys => if xs.length + ys.length ≤ LIM then some (.tup (xs ++ ys)) else none
  | .lst xs, .lst ys => if xs.length + ys.length ≤ LIM then some (.lst (xs ++ ys)) else none
  | .str x, .str y => if x.length + y.length ≤ LIM then some (.str (x ++ y)) else none
  | _, _ => none
def rAddA (K : PySem.W.Frag) : R2 := fun x y H Q => (((∃ i j, x = .int i ∧ y = .int j ∧ Q (.int (i + j)) H) ∨ rCatA K x y H Q) ∨ rCat x y H Q) ∨ (∃ i j, x = .str i ∧ y = .str j ∧ i.length + j.length ≤ sizeLine ∧ Q (.str (i ++ j)) H)
theorem op_addA {X : Cx} : OpR X (binaryOp .Add) (rAddA X.K) := ((OpR.or (OpR.or op_add op_catA) op_cat).or op_add_str)
theorem if_some {c : Prop} [Decidable c] {a b : D} (h : (if c then some a else none) = some b) : c ∧ b = a := by
  by_cases hc : c
  · rw [if_pos hc] at h; exact ⟨hc, (Option.some.inj h).symm⟩
  · rw [if_neg hc] at h; cases h
section
variable {K : PySem.W.Frag}
theorem d_add : Op2 K dAdd (rAddA K) := by
  intro F H x y dx dy d Q s rx ry e q
  unfold dAdd at e
  split at e
  · cases e
    exact .inl (.inl (.inl ⟨_, _, rx.int, ry.int, q _ H F (.refl s) (.int _)⟩))
  · obtain ⟨c, rfl⟩ := if_some e
    rw [lim_line] at c
    obtain ⟨a, vs, rfl, h1, r1⟩ := rx.tup
    obtain ⟨b, ws, rfl, h2, r2⟩ := ry.tup
    refine .inl (.inl (.inr ⟨a, b, vs, ws, rfl, rfl, .of (s _ _ h1), .of (s _ _ h2), by rw [r1.length, r2.length]; exact c, fun e => ?_, fun _ e => ?_, fun _ _ p np => ?_⟩))
    · subst e
      cases r1
      exact q _ H F (.refl s) (.ob h2 (.tup r2))
    · subst e
      cases r2
      refine q _ H F (.refl s) (.ob h1 (.tup ?_))
      rw [List.append_nil]; exact r1
    · have E := Ext.laid s (o := .tup (vs ++ ws)) np
      exact q _ _ _ E (.ob upd_same (.tup ((r1.append r2).mono E.f)))
  · obtain ⟨c, rfl⟩ := if_some e
    rw [lim_line] at c
    obtain ⟨a, vs, rfl, h1, r1⟩ := rx.lst s
    obtain ⟨b, ws, rfl, h2, r2⟩ := ry.lst s
    refine .inl (.inr ⟨a, b, vs, ws, rfl, rfl, h1, h2, by rw [r1.length, r2.length]; exact c, fun p np => ?_⟩)
    have E := Ext.laid s (o := .lst (vs ++ ws)) np
    exact q _ _ _ E (.ob upd_same (.lst ((r1.append r2).mono E.f)))
  · obtain ⟨c, rfl⟩ := if_some e
    rw [lim_line] at c
    exact .inr ⟨_, _, rx.str, ry.str, c, q _ H F (.refl s) (.str _)⟩
  · cases e
/-- list + list, the new list one's own -/
def dCat : D → D → Option D
  | .lst xs, .lst ys => if xs.length + ys.length ≤ LIM then some (.lst (xs ++ ys)) else none
  | _, _ => none
theorem d_cat : Op2N K dCat rCat := by
  intro F H x y dx dy d Q s rx ry e q
  unfold dCat at e
  split at e
  · obtain ⟨c, rfl⟩ := if_some e
    rw [lim_line] at c
    obtain ⟨a, vs, rfl, h1, r1⟩ := rx.lst s
    obtain ⟨b, ws, rfl, h2, r2⟩ := ry.lst s
    refine ⟨a, b, vs, ws, rfl, rfl, h1, h2, by rw [r1.length, r2.length]; exact c, fun p np => ?_⟩
    exact q p _ _ F (Ext.own s np) np (s.free np) upd_same rfl (.lst (r1.append r2))
  · cases e
end
end SK

set_option Elab.async false
set_option linter.all false
set_option maxRecDepth 100000
set_option maxHeartbeats 4000000
set_option autoImplicit false
namespace SK
open PySem PySem.Spec PyProof.Rows L2

/-! ### equality of data -/
mutual
def D.py : D → PyData
  | .non => .none
  | .bl b => .bool b
  | .int i => .int i
  | .str s => .str s
  | .tup xs => .tuple (D.pyL xs)
  | .lst xs => .list (D.pyL xs)
  | .scr ns => .list (ns.map .int)
def D.pyL : List D → List PyData
  | [] => []
  | x :: xs => D.py x :: D.pyL xs
end
mutual
def D.eqb : D → D → Bool
  | .non, .non => true
  | .bl a, .bl b => a == b
  | .bl a, .int j => (if a then 1 else 0) == j
  | .int i, .bl b => i == (if b then 1 else 0)
  | .int i, .int j => i == j
  | .str x, .str y => x == y
  | .tup xs, .tup ys => D.eqbL xs ys
  | .lst xs, .lst ys => D.eqbL xs ys
  | _, _ => false
def D.eqbL : List D → List D → Bool
  | [], [] => true
  | x :: xs, y :: ys => D.eqb x y && D.eqbL xs ys
  | _, _ => false
end
def D.shp : Nat → D → Bool
  | _, .non => true
  | _, .bl _ => true
  | _, .int _ => true
  | _, .str s => PyData.strOk s
  | n + 1, .tup xs => xs.all (D.shp n)
  | n + 1, .lst xs => xs.all (D.shp n)
  | _, _ => false
theorem shp_ok : ∀ (n : Nat) (d : D), D.shp n d = true → d.py.canLay0 = true ∧ d.py.depth ≤ n := by
  intro n
  induction n with
  | zero =>
    intro d h
    cases d with
    | non => exact ⟨rfl, Nat.le_refl _⟩
    | bl => exact ⟨rfl, Nat.le_refl _⟩
    | int => exact ⟨rfl, Nat.le_refl _⟩
    | str s => exact ⟨h, Nat.le_refl _⟩
    | tup xs => cases h
    | lst xs => cases h
    | scr ns => cases h
  | succ n ih =>
    intro d h
    have L : ∀ xs : List D, xs.all (D.shp n) = true → PyData.canLayAll0 (D.pyL xs) = true ∧ PyData.depthAll (D.pyL xs) ≤ n := by
      intro xs
      induction xs with
      | nil => intro _; exact ⟨by simp only [D.pyL, PyData.canLayAll0], by simp only [D.pyL, PyData.depthAll]; exact Nat.zero_le _⟩
      | cons x xs ihx =>
        intro h
        rw [List.all_cons] at h
        obtain ⟨h1, h2⟩ := Bool.and_eq_true_iff.mp h
        obtain ⟨a1, a2⟩ := ih x h1
        obtain ⟨b1, b2⟩ := ihx h2
        simp only [D.pyL, PyData.canLayAll0, PyData.depthAll, a1, b1, Bool.and_self]
        exact ⟨trivial, Nat.max_le.mpr ⟨a2, b2⟩⟩
    cases d with
    | non => exact ⟨rfl, Nat.zero_le _⟩
    | bl => exact ⟨rfl, Nat.zero_le _⟩
    | int => exact ⟨rfl, Nat.zero_le _⟩
    | str s => exact ⟨h, Nat.zero_le _⟩
    | tup xs =>
      obtain ⟨a, b⟩ := L xs h
      simp only [D.py, PyData.canLay0, PyData.depth]
      exact ⟨a, Nat.succ_le_succ b⟩
    | lst xs =>
      obtain ⟨a, b⟩ := L xs h
      simp only [D.py, PyData.canLay0, PyData.depth]
      exact ⟨a, Nat.succ_le_succ b⟩
    | scr ns => cases h
theorem shp_shaped {n : Nat} {d : D} (hn : n ≤ 64) (h : D.shp n d = true) : SeqAt.shaped d.py = true := by
  obtain ⟨a, b⟩ := shp_ok n d h
  unfold SeqAt.shaped
  rw [a, decide_eq_true (Nat.le_trans b hn)]
  rfl
theorem eqb_py : ∀ (n m : Nat) (x y : D), D.shp n x = true → D.shp m y = true → D.eqb x y = PyData.eqv x.py y.py := by
  intro n
  induction n with
  | zero =>
    intro m x y h hy
    cases x <;> first | (cases h; done) | (cases y <;> first | (cases m <;> cases hy; done) | simp only [D.eqb, D.py, PyData.eqv])
  | succ n ih =>
    intro m x y h hy
    have L : ∀ (m : Nat) (xs : List D), xs.all (D.shp n) = true → ∀ ys : List D, ys.all (D.shp m) = true → D.eqbL xs ys = PyData.eqvAll (D.pyL xs) (D.pyL ys) := by
      intro m xs
      induction xs with
      | nil => intro _ ys _; cases ys <;> simp only [D.eqbL, D.pyL, PyData.eqvAll]
      | cons x xs ihx =>
        intro h ys hy
        rw [List.all_cons] at h
        obtain ⟨h1, h2⟩ := Bool.and_eq_true_iff.mp h
        cases ys with
        | nil => simp only [D.eqbL, D.pyL, PyData.eqvAll]
        | cons y ys =>
          rw [List.all_cons] at hy
          obtain ⟨y1, y2⟩ := Bool.and_eq_true_iff.mp hy
          simp only [D.eqbL, D.pyL, PyData.eqvAll]
          rw [ihx h2 ys y2, ih m x y h1 y1]
    cases m with
    | zero => cases x <;> first | (cases h; done) | (cases y <;> first | (cases hy; done) | (simp only [D.eqb, D.py, PyData.eqv]; done))
    | succ m => cases x <;> first | (cases h; done) | (cases y <;> first | (cases hy; done) | (simp only [D.eqb, D.py, PyData.eqv]; done) | (simp only [D.eqb, D.py, PyData.eqv]; exact L m _ h _ hy))
section
variable {K : PySem.W.Frag} {F H : Hp}
mutual
theorem dp_of (s : Same F H) : ∀ {v : V} {d : D}, Rep K F v d → Dp K H v d.py
  | _, _, .non => .non
  | _, _, .bl b => .bl b
  | _, _, .int i => .int i
  | _, _, .str x => .str x
  | _, _, .scr (ns := ns) h => .lst (s.seq h) (dp_ints ns)
  | _, _, .ob h r => dp_ob s (s _ _ h) r
theorem dp_ob (s : Same F H) : ∀ {a : Addr} {o : HO} {d : D}, H a = some o → ObR K F o d → Dp K H (.ref a) d.py
  | _, _, _, h, .tup r => .tup (.of h) (dpl_of s r)
  | _, _, _, h, .lst r => .lst (.of h) (dpl_of s r)
theorem dpl_of (s : Same F H) : ∀ {vs : List V} {ds : List D}, RepL K F vs ds → DpAll K H vs (D.pyL ds)
  | _, _, .nil => .nil
  | _, _, .cons h r => .cons (dp_of s h) (dpl_of s r)
theorem dp_ints : ∀ ns : List Int, DpAll K H (ns.map V.int) (ns.map PyData.int)
  | [] => .nil
  | n :: ns => .cons (.int n) (dp_ints ns)
end
theorem dp_B (s : Same F H) {v : V} {d : D} (r : RepB K F H v d) : Dp K H v d.py := by
  rcases r with r | ⟨_, a, o, rfl, h, q⟩
  · exact dp_of s r
  · exact dp_ob s h q
end
def dEq (x y : D) : Option D := if D.shp 8 x && D.shp 8 y then some (.bl (D.eqb x y)) else none
def dNe (x y : D) : Option D := if D.shp 8 x && D.shp 8 y then some (.bl (!D.eqb x y)) else none
section
variable {K : PySem.W.Frag}
theorem d_eq : Op2 K dEq (rEqD K) := by
  intro F H x y dx dy d Q s rx ry e q
  obtain ⟨c, rfl⟩ := ite_some e
  obtain ⟨c1, c2⟩ := Bool.and_eq_true_iff.mp c
  refine ⟨dx.py, dy.py, dp_B s rx, dp_B s ry, shp_shaped (by decide) c1, shp_shaped (by decide) c2, ?_⟩
  rw [← eqb_py 8 8 dx dy c1 c2]
  exact q _ H F (.refl s) (.bl _)
theorem d_ne : Op2 K dNe (rNeD K) := by
  intro F H x y dx dy d Q s rx ry e q
  obtain ⟨c, rfl⟩ := ite_some e
  obtain ⟨c1, c2⟩ := Bool.and_eq_true_iff.mp c
  refine ⟨dx.py, dy.py, dp_B s rx, dp_B s ry, shp_shaped (by decide) c1, shp_shaped (by decide) c2, ?_⟩
  rw [← eqb_py 8 8 dx dy c1 c2]
  exact q _ H F (.refl s) (.bl _)
/-! ### is, is not -/
def D.isN : D → Bool
  | .non => true
  | _ => false
def dIs : D → D → Option D
  | x, .non => some (.bl x.isN)
  | .bl a, .bl b => some (.bl (decide (a = b)))
  | _, _ => none
def dIsNot : D → D → Option D
  | x, .non => some (.bl (!x.isN))
  | .bl a, .bl b => some (.bl (!decide (a = b)))
  | _, _ => none
def rIsA : R2 := fun x y H Q => (y = .non ∧ Q (.bl (decide (x = .non))) H) ∨ rIsB x y H Q
def rIsNotA : R2 := fun x y H Q => (y = .non ∧ Q (.bl (!decide (x = .non))) H) ∨ rNotB x y H Q
theorem op_isA {X : Cx} : OpR X (compareOp .Is) rIsA := op_isN.or op_isBl
theorem op_isNotA {X : Cx} : OpR X (compareOp .IsNot) rIsNotA := op_notN.or op_notBl
theorem repB_none {F H : Hp} {v : V} {d : D} (r : RepB K F H v d) : decide (v = .non) = d.isN := by
  rcases r with r | ⟨m, a, o, rfl, h, q⟩
  · cases r with
    | ob h q => cases q <;> rfl
    | _ => rfl
  · cases q <;> rfl
/-- is True, is False: of a value that is a bool, None, an int, a text; an answer for the others lacks -/
theorem d_is : Op2 K dIs rIsA := by
  intro F H x y dx dy d Q s rx ry e q
  unfold dIs at e
  split at e
  · cases e
    refine .inl ⟨ry.non, ?_⟩
    rw [repB_none rx]
    exact q _ H F (.refl s) (.bl _)
  · cases e
    exact .inr ⟨_, _, rx.bl, ry.bl, q _ H F (.refl s) (.bl _)⟩
  · cases e
theorem d_isnot : Op2 K dIsNot rIsNotA := by
  intro F H x y dx dy d Q s rx ry e q
  unfold dIsNot at e
  split at e
  · cases e
    refine .inl ⟨ry.non, ?_⟩
    rw [repB_none rx]
    exact q _ H F (.refl s) (.bl _)
  · cases e
    exact .inr ⟨_, _, rx.bl, ry.bl, q _ H F (.refl s) (.bl _)⟩
  · cases e
end

/-! ### truth, tests -/
def truth : D → Option Bool
  | .non => some false
  | .bl b => some b
  | .int i => some (i != 0)
  | .str s => if s.length ≤ LIM then some ((s.length : Int) != 0) else none
  | .tup xs => some !xs.isEmpty
  | .lst xs => some !xs.isEmpty
  | .scr ns => some !ns.isEmpty
abbrev MT := En → Option Bool
def mTru (m : ME) : MT := fun Γ => (m Γ).bind truth
def dB : D → Option Bool
  | .bl b => some b
  | _ => none
def mTB (m : ME) : MT := fun Γ => (m Γ).bind dB
def mAnd (a b : ME) : ME := fun Γ => (a Γ).bind fun x => (truth x).bind fun t => if t then b Γ else some x
def mOr (a b : ME) : ME := fun Γ => (a Γ).bind fun x => (truth x).bind fun t => if t then some x else b Γ
def mtAnd (a b : MT) : MT := fun Γ => (a Γ).bind fun t => if t then b Γ else some false
def mtOr (a b : MT) : MT := fun Γ => (a Γ).bind fun t => if t then some true else b Γ
def mtNot (a : MT) : MT := fun Γ => (a Γ).bind fun t => some (!t)
def mNot (a : ME) : ME := fun Γ => (a Γ).bind fun x => (truth x).bind fun t => some (.bl (!t))
def mIf (c : MT) (a b : ME) : ME := fun Γ => (c Γ).bind fun t => if t then a Γ else b Γ
def mChain (f g : D → D → Option D) (a b c : ME) : ME := fun Γ => (a Γ).bind fun x => (b Γ).bind fun y => (f x y).bind fun z => (dB z).bind fun k => if k then (c Γ).bind fun w => g y w else some (.bl false)
theorem isEmpty_rep {K : PySem.W.Frag} {F : Hp} {vs : List V} {ds : List D} (r : RepL K F vs ds) : vs.isEmpty = ds.isEmpty := by
  cases r <;> rfl
theorem truth_ok {K : PySem.W.Frag} {F H : Hp} {v : V} {d : D} {b : Bool} (s : Same F H) (r : RepB K F H v d) (h : truth d = some b) : TruV K v H b := by
  cases d with
  | non => rw [r.non]; cases h; rfl
  | bl a => rw [r.bl]; cases h; rfl
  | int i => rw [r.int]; cases h; rfl
  | str x =>
    rw [r.str]
    simp only [truth] at h
    split at h
    · rename_i c
      cases h
      exact ⟨by rw [← lim_line]; exact c, rfl⟩
    · cases h
  | tup xs =>
    obtain ⟨a, vs, rfl, h1, r1⟩ := r.tup
    cases h
    exact .inr (.inl ⟨vs, .of (s _ _ h1), by rw [isEmpty_rep r1]⟩)
  | lst xs =>
    obtain ⟨a, vs, rfl, h1, r1⟩ := r.lst s
    cases h
    exact .inl ⟨vs, .of h1, by rw [isEmpty_rep r1]⟩
  | scr ns =>
    obtain ⟨a, rfl, h1⟩ := (r.full rfl).scrI
    cases h
    exact .inl ⟨_, s.seq h1, by rw [List.isEmpty_map]⟩
section
variable {X : Cx} {a b c : Expr} {rest : List Expr} {pos : Pos} {ma mb mc : ME} {ta tb : MT} {f g : D → D → Option D} {r r' : R2}
theorem truT {t : TE} {tt : TT} (ht : ∀ σ H Q, (t σ H fun x H' => ∃ k, TruV X.K x H' k ∧ Q k H') → tt σ H Q) (hw : ∀ σ H Q, rdB X.K ma σ H Q → t σ H Q) : ∀ σ H Q, rdT X.K (mTru ma) σ H Q → tt σ H Q := by
  intro σ H Q ⟨H0, F, Γ, k, R, z, q⟩
  obtain ⟨d, e, z⟩ := Option.bind_eq_some_iff.mp z
  exact ht _ _ _ (hw _ _ _ ⟨H0, F, Γ, d, R, e, fun v H' F' E rv => ⟨k, truth_ok E.fh rv z, q H' F' E⟩⟩)
/-- any expression whose test is its value's truth -/
theorem r_tru (ha : PE X a (rdB X.K ma)) (he : ∀ whole, isTrue a X.env whole = (do let v ← whole; standAt a.pos; holding [v] (truthy v)) := by intro _; rfl) : PT X a (rdT X.K (mTru ma)) :=
  PT.wk (pt_truth ha he) (truT (fun _ _ _ h => h) fun _ _ _ h => h)
theorem tB_of {t : TE} (ht : ∀ σ H Q, rdE X.K ma σ H Q → t σ H Q) {σ H Q} (h : rdT X.K (mTB ma) σ H Q) : tTest t σ H Q := by
  obtain ⟨H0, F, Γ, k, R, z, q⟩ := h
  obtain ⟨d, e, z⟩ := Option.bind_eq_some_iff.mp z
  refine ht _ _ _ ⟨H0, F, Γ, d, R, e, fun v H' F' E rv => ⟨k, ?_, q H' F' E⟩⟩
  unfold dB at z
  split at z
  · cases z
    exact (show RepB X.K F' H' v (.bl _) from .inl rv).bl
  · cases z
theorem r_tcmp {op : CmpOp} (ho : OpR X (compareOp op) r) (hf : Op2 X.K f r) (ha : PE X a (rdB X.K ma)) (hb : PE X b (rdB X.K mb)) (hm : behindInMarks op b = false) : PT X (.Compare a [op] [b] pos) (rdT X.K (mTB (mBin f ma mb))) :=
  PT.wk (pt_cmpR ho ha hb hm) fun _ _ _ h => tB_of (fun _ _ _ h => two hf h) h
theorem chn (hf : Op2 X.K f r) (hg : Op2 X.K g r') {σ H Q} (h : rdE X.K (mChain f g ma mb mc) σ H Q) : tChain r r' (rdB X.K ma) (rdB X.K mb) (rdB X.K mc) σ H Q := by
  obtain ⟨H0, F, Γ, d, R, z, q⟩ := h
  obtain ⟨dx, ex, z⟩ := Option.bind_eq_some_iff.mp z
  obtain ⟨dy, ey, z⟩ := Option.bind_eq_some_iff.mp z
  obtain ⟨dz, ez, z⟩ := Option.bind_eq_some_iff.mp z
  obtain ⟨k, ek, z⟩ := Option.bind_eq_some_iff.mp z
  refine ⟨H0, F, Γ, dx, R, ex, fun x H1 F1 E1 rx => ⟨H0, F1, Γ, dy, R.ext E1, ey, fun y H2 F2 E2 ry => hf F2 H2 x y dx dy dz _ E2.fh (rx.ext E2) ry ez fun v H3 F3 E3 rv => ⟨k, ?_, ?_⟩⟩⟩
  · unfold dB at ek
    split at ek
    · cases ek
      exact (show RepB X.K F3 H3 v (.bl _) from .inl rv).bl
    · cases ek
  · cases k with
    | false =>
      cases z
      exact q _ H3 F3 ((E1.trans E2).trans E3) (.bl _)
    | true =>
      obtain ⟨dw, ew, z⟩ := Option.bind_eq_some_iff.mp z
      refine iteT ⟨H0, F3, Γ, dw, ((R.ext E1).ext E2).ext E3, ew, fun w H4 F4 E4 rw' => hg F4 H4 y w dy dw d Q E4.fh ((ry.ext E3).ext E4) rw' z fun v H' F' E5 rv => q v H' F' ((((E1.trans E2).trans E3).trans E4).trans E5) rv⟩
theorem r_chain {op op' : CmpOp} (ho : OpR X (compareOp op) r) (hf : Op2 X.K f r) (ho' : OpR X (compareOp op') r') (hg : Op2 X.K g r') (ha : PE X a (rdB X.K ma)) (hb : PE X b (rdB X.K mb)) (hc : PE X c (rdB X.K mc))
    (hm : lastMarks [op, op'] [b, c] = false := by with_unfolding_all rfl) : PE X (.Compare a [op, op'] [b, c] pos) (rdE X.K (mChain f g ma mb mc)) :=
  PE.wk (pe_chain ho ho' ha hb hc hm) fun _ _ _ h => chn hf hg h
theorem r_tchain {op op' : CmpOp} (ho : OpR X (compareOp op) r) (hf : Op2 X.K f r) (ho' : OpR X (compareOp op') r') (hg : Op2 X.K g r') (ha : PE X a (rdB X.K ma)) (hb : PE X b (rdB X.K mb)) (hc : PE X c (rdB X.K mc))
    (hm : lastMarks [op, op'] [b, c] = false := by with_unfolding_all rfl) : PT X (.Compare a [op, op'] [b, c] pos) (rdT X.K (mTB (mChain f g ma mb mc))) :=
  PT.wk (pt_chain ho ho' ha hb hc hm) fun _ _ _ h => tB_of (fun _ _ _ h => chn hf hg h) h
theorem r_one {op} {t : TE} (h : PE X a t) : PE X (.BoolOp op [a] pos) t := pe_one h
theorem r_and (ha : PE X a (rdE X.K ma)) (hb : PE X (.BoolOp .And (b :: rest) pos) (rdE X.K mb)) : PE X (.BoolOp .And (a :: b :: rest) pos) (rdE X.K (mAnd ma mb)) :=
  PE.wk (pe_andT ha hb) fun σ H Q ⟨H0, F, Γ, d, R, z, q⟩ => by
    obtain ⟨dx, ex, z⟩ := Option.bind_eq_some_iff.mp z
    obtain ⟨t, et, z⟩ := Option.bind_eq_some_iff.mp z
    refine ⟨H0, F, Γ, dx, R, ex, fun x H1 F1 E1 rx => ⟨t, truth_ok E1.fh (.inl rx) et, ?_⟩⟩
    cases t with
    | false => cases z; exact q x H1 F1 E1 rx
    | true => exact iteT ⟨H0, F1, Γ, d, R.ext E1, z, fun v H' F' E2 rv => q v H' F' (E1.trans E2) rv⟩
theorem r_or (ha : PE X a (rdE X.K ma)) (hb : PE X (.BoolOp .Or (b :: rest) pos) (rdE X.K mb)) : PE X (.BoolOp .Or (a :: b :: rest) pos) (rdE X.K (mOr ma mb)) :=
  PE.wk (pe_orT ha hb) fun σ H Q ⟨H0, F, Γ, d, R, z, q⟩ => by
    obtain ⟨dx, ex, z⟩ := Option.bind_eq_some_iff.mp z
    obtain ⟨t, et, z⟩ := Option.bind_eq_some_iff.mp z
    refine ⟨H0, F, Γ, dx, R, ex, fun x H1 F1 E1 rx => ⟨t, truth_ok E1.fh (.inl rx) et, ?_⟩⟩
    cases t with
    | true => cases z; exact q x H1 F1 E1 rx
    | false => exact iteF ⟨H0, F1, Γ, d, R.ext E1, z, fun v H' F' E2 rv => q v H' F' (E1.trans E2) rv⟩
theorem r_tand1 (ha : PT X a (rdT X.K ta)) : PW X (.BoolOp .And [a] pos) (rdT X.K ta) := pw_and1 ha
theorem r_tor1 (ha : PT X a (rdT X.K ta)) : PW X (.BoolOp .Or [a] pos) (rdT X.K ta) := pw_or1 ha
theorem r_tand (ha : PT X a (rdT X.K ta)) (hb : PW X (.BoolOp .And (b :: rest) pos) (rdT X.K tb)) : PW X (.BoolOp .And (a :: b :: rest) pos) (rdT X.K (mtAnd ta tb)) :=
  PW.wk (pw_and ha hb) fun σ H Q ⟨H0, F, Γ, k, R, z, q⟩ => by
    obtain ⟨t, et, z⟩ := Option.bind_eq_some_iff.mp z
    refine ⟨H0, F, Γ, t, R, et, fun H1 F1 E1 => ?_⟩
    cases t with
    | false => cases z; exact q H1 F1 E1
    | true => exact iteT ⟨H0, F1, Γ, k, R.ext E1, z, fun H' F' E2 => q H' F' (E1.trans E2)⟩
theorem r_tor (ha : PT X a (rdT X.K ta)) (hb : PW X (.BoolOp .Or (b :: rest) pos) (rdT X.K tb)) : PW X (.BoolOp .Or (a :: b :: rest) pos) (rdT X.K (mtOr ta tb)) :=
  PW.wk (pw_or ha hb) fun σ H Q ⟨H0, F, Γ, k, R, z, q⟩ => by
    obtain ⟨t, et, z⟩ := Option.bind_eq_some_iff.mp z
    refine ⟨H0, F, Γ, t, R, et, fun H1 F1 E1 => ?_⟩
    cases t with
    | true => cases z; exact q H1 F1 E1
    | false => exact iteF ⟨H0, F1, Γ, k, R.ext E1, z, fun H' F' E2 => q H' F' (E1.trans E2)⟩
theorem r_tnot (ha : PT X a (rdT X.K ta)) : PT X (.UnaryOp .Not a pos) (rdT X.K (mtNot ta)) :=
  PT.wk (pt_not ha) fun σ H Q ⟨H0, F, Γ, k, R, z, q⟩ => by
    obtain ⟨t, et, z⟩ := Option.bind_eq_some_iff.mp z
    cases z
    exact ⟨H0, F, Γ, t, R, et, fun H1 F1 E1 => q H1 F1 E1⟩
theorem r_not (ha : PE X a (rdB X.K ma)) : PE X (.UnaryOp .Not a pos) (rdE X.K (mNot ma)) :=
  PE.wk (pe_notT ha) fun σ H Q ⟨H0, F, Γ, d, R, z, q⟩ => by
    obtain ⟨dx, ex, z⟩ := Option.bind_eq_some_iff.mp z
    obtain ⟨t, et, z⟩ := Option.bind_eq_some_iff.mp z
    cases z
    exact ⟨H0, F, Γ, dx, R, ex, fun x H1 F1 E1 rx => ⟨t, truth_ok E1.fh rx et, q _ H1 F1 E1 (.bl _)⟩⟩
theorem r_ifx (hc : PT X c (rdT X.K ta)) (ha : PE X a (rdE X.K ma)) (hb : PE X b (rdE X.K mb)) : PE X (.IfExp c a b pos) (rdE X.K (mIf ta ma mb)) :=
  PE.wk (pe_ifExp hc ha hb) fun σ H Q ⟨H0, F, Γ, d, R, z, q⟩ => by
    obtain ⟨t, et, z⟩ := Option.bind_eq_some_iff.mp z
    refine ⟨H0, F, Γ, t, R, et, fun H1 F1 E1 => ?_⟩
    cases t with
    | true => exact iteT ⟨H0, F1, Γ, d, R.ext E1, z, fun v H' F' E2 rv => q v H' F' (E1.trans E2) rv⟩
    | false => exact iteF ⟨H0, F1, Γ, d, R.ext E1, z, fun v H' F' E2 rv => q v H' F' (E1.trans E2) rv⟩
/-- - x -/
def dNeg : D → Option D
  | .int i => some (.int (-i))
  | _ => none
theorem r_neg (ha : PE X a (rdB X.K ma)) : PE X (.UnaryOp .USub a pos) (rdE X.K (mUn dNeg ma)) :=
  PE.wk (pe_un un_neg ha) fun σ H Q h => one (h := rU fun i => .int (-i)) (fun F H x dx d Q s rx e q => by
    unfold dNeg at e
    split at e
    · cases e
      exact ⟨_, rx.int, q _ H F (.refl s) (.int _)⟩
    · cases e) h
end

/-! ### displays, arguments -/
def mNil : MA := fun _ => some []
def mCons (a : ME) (r : MA) : MA := fun Γ => (a Γ).bind fun x => (r Γ).bind fun xs => some (x :: xs)
def mTup (m : MA) : ME := fun Γ => (m Γ).bind fun xs => if xs.length ≤ LIM then some (.tup xs) else none
def mLst (m : MA) : ME := fun Γ => (m Γ).bind fun xs => if xs.length ≤ LIM then some (.lst xs) else none
theorem RepBL.ext {K : PySem.W.Frag} {F H F' H' : Hp} (e : Ext F H F' H') : ∀ {vs : List V} {ds : List D}, RepBL K F H vs ds → RepBL K F' H' vs ds
  | _, _, .nil => .nil
  | _, _, .cons h r => .cons (h.ext e) (RepBL.ext e r)
section
variable {X : Cx} {e : Expr} {es : List Expr} {pos : Pos} {ma : ME} {ms : MA}
theorem r_pnil : PA X [] (rdA X.K mNil) := PA.wk pa_nil fun σ H Q ⟨H0, F, Γ, ds, R, z, q⟩ => by cases z; exact q [] H F (.refl R.fh) .nil
theorem r_pcons (ha : PE X e (rdE X.K ma)) (hr : PA X es (rdA X.K ms)) (hs : starEach (e :: es) X.env = (false, eval e X.env) :: starEach es X.env := by rfl) : PA X (e :: es) (rdA X.K (mCons ma ms)) :=
  PA.wk (pa_cons ha hr hs) fun σ H Q ⟨H0, F, Γ, ds, R, z, q⟩ => by
    obtain ⟨dx, ex, z⟩ := Option.bind_eq_some_iff.mp z
    obtain ⟨dy, ey, z⟩ := Option.bind_eq_some_iff.mp z
    cases z
    exact ⟨H0, F, Γ, dx, R, ex, fun x H1 F1 E1 rx => ⟨H0, F1, Γ, dy, R.ext E1, ey, fun y H2 F2 E2 ry => q _ H2 F2 (E1.trans E2) (.cons (rx.mono E2.f) ry)⟩⟩
theorem r_bnil : PA X [] (rdAB X.K mNil) := PA.wk pa_nil fun σ H Q ⟨H0, F, Γ, ds, R, z, q⟩ => by cases z; exact q [] H F (.refl R.fh) .nil
theorem r_bcons (ha : PE X e (rdB X.K ma)) (hr : PA X es (rdAB X.K ms)) (hs : starEach (e :: es) X.env = (false, eval e X.env) :: starEach es X.env := by rfl) : PA X (e :: es) (rdAB X.K (mCons ma ms)) :=
  PA.wk (pa_cons ha hr hs) fun σ H Q ⟨H0, F, Γ, ds, R, z, q⟩ => by
    obtain ⟨dx, ex, z⟩ := Option.bind_eq_some_iff.mp z
    obtain ⟨dy, ey, z⟩ := Option.bind_eq_some_iff.mp z
    cases z
    exact ⟨H0, F, Γ, dx, R, ex, fun x H1 F1 E1 rx => ⟨H0, F1, Γ, dy, R.ext E1, ey, fun y H2 F2 E2 ry => q _ H2 F2 (E1.trans E2) (.cons (rx.ext E2) ry)⟩⟩
theorem r_tup {k} (h : PA X es (rdA X.K ms)) : PE X (.Tuple es k pos) (rdE X.K (mTup ms)) :=
  PE.wk (pe_tup h) fun σ H Q ⟨H0, F, Γ, d, R, z, q⟩ => by
    obtain ⟨ds, es, z⟩ := Option.bind_eq_some_iff.mp z
    obtain ⟨c, rfl⟩ := if_some z
    refine ⟨H0, F, Γ, ds, R, es, fun vs H1 F1 E1 r => ⟨by rw [← lim_line, r.length]; exact c, fun p np => ?_⟩⟩
    have E := Ext.laid E1.fh (o := .tup vs) np
    exact q _ _ _ (E1.trans E) (.ob upd_same (.tup (r.mono E.f)))
theorem r_lstN (h : PA X es (rdA X.K ms)) : PE X (.List es pos) (rdN X.K (mLst ms)) :=
  PE.wk (pe_lst h) fun σ H Q ⟨H0, F, Γ, d, R, z, q⟩ => by
    obtain ⟨ds, es, z⟩ := Option.bind_eq_some_iff.mp z
    obtain ⟨c, rfl⟩ := if_some z
    refine ⟨H0, F, Γ, ds, R, es, fun vs H1 F1 E1 r => ⟨by rw [← lim_line, r.length]; exact c, fun p np => ?_⟩⟩
    exact q p _ _ F1 (E1.trans (Ext.own E1.fh np)) (E1.h.free np) (E1.fh.free np) upd_same rfl (.lst r)
end

/-! ### subscripts -/
def dIx : D → D → Option D
  | .tup xs, .int i => atI xs i
  | .lst xs, .int i => atI xs i
  | .str s, .int i => if s.length ≤ LIM then (atI s.cps.toList i).map fun c => .str ⟨#[c]⟩ else none
  | .scr ns, .int i => (atI ns i).map .int
  | _, _ => none
theorem ixN_len {n m : Nat} (h : n = m) {i : Int} : ixN n i = ixN m i := by rw [h]
theorem atI_rep {K : PySem.W.Frag} {F : Hp} {vs : List V} {ds : List D} {i : Int} {d : D} (r : RepL K F vs ds) (h : atI ds i = some d) : ∃ v, atI vs i = some v ∧ Rep K F v d := by
  unfold atI at h
  obtain ⟨j, e, h⟩ := Option.bind_eq_some_iff.mp h
  obtain ⟨v, h1, h2⟩ := r.get h
  refine ⟨v, ?_, h2⟩
  unfold atI
  rw [r.length, e]
  exact h1
theorem atI_map {α β : Type} (f : α → β) (xs : List α) (i : Int) : atI (xs.map f) i = (atI xs i).map f := by
  unfold atI
  rw [List.length_map]
  cases ixN xs.length i with
  | none => rfl
  | some j => exact List.getElem?_map
section
variable {K : PySem.W.Frag}
theorem d_ix : Op2 K dIx (rIx K) := by
  intro F H x y dx dy d Q s rx ry e q
  unfold dIx at e
  split at e
  · obtain ⟨a, vs, rfl, h1, r1⟩ := rx.tup
    obtain ⟨v, h2, h3⟩ := atI_rep r1 e
    exact .inr (.inl ⟨a, vs, _, v, rfl, ry.int, .of (s _ _ h1), h2, q v H F (.refl s) h3⟩)
  · obtain ⟨a, vs, rfl, h1, r1⟩ := rx.lst s
    obtain ⟨v, h2, h3⟩ := atI_rep r1 e
    exact .inl ⟨a, vs, _, v, rfl, ry.int, .of h1, h2, q v H F (.refl s) h3⟩
  · split at e
    · rename_i c
      obtain ⟨k, h1, rfl⟩ := Option.map_eq_some_iff.mp e
      exact .inr (.inr ⟨_, _, k, rx.str, ry.int, by rw [← lim_line]; exact c, h1, q _ H F (.refl s) (.str _)⟩)
    · cases e
  · obtain ⟨a, rfl, h1⟩ := (rx.full rfl).scrI
    obtain ⟨k, h2, rfl⟩ := Option.map_eq_some_iff.mp e
    exact .inl ⟨a, _, _, .int k, rfl, ry.int, s.seq h1, by rw [atI_map, h2]; rfl, q _ H F (.refl s) (.int _)⟩
  · cases e
end
section
variable {X : Cx} {a b : Expr} {pos : Pos} {ma mb : ME}
theorem r_ix (ha : PE X a (rdB X.K ma)) (hb : PE X b (rdB X.K mb)) (hs : PlainIx b := by exact fun _ _ => rfl) : PE X (.Subscript a b pos) (rdE X.K (mBin dIx ma mb)) :=
  PE.wk (pe_ix ix_seq ha hb hs) fun _ _ _ h => two d_ix h
end
/-! ### slices -/
abbrev MO := En → Option (Option Int)
def rdO (K : PySem.W.Frag) (m : MO) : TO := fun σ H Q => ∃ H0 F Γ o, Rel K H0 F H σ Γ ∧ m Γ = some o ∧ ∀ H' F', Ext F H F' H' → Q o H'
def mONone : MO := fun _ => some none
def dInt : D → Option (Option Int)
  | .int i => some (some i)
  | _ => none
def mOSome (a : ME) : MO := fun Γ => (a Γ).bind dInt
/-- the items of xs[lo:hi] -/
def cutD (xs : List D) (lo hi : Option Int) : List D := (xs.drop (HT.sIx xs.length 0 lo)).take (HT.sIx xs.length xs.length hi - HT.sIx xs.length 0 lo)
def dSl : D → Option Int → Option Int → Option D
  | .tup xs, lo, hi => some (.tup (cutD xs lo hi))
  | .lst xs, lo, hi => some (.lst (cutD xs lo hi))
  | _, _, _ => none
def dSlL : D → Option Int → Option Int → Option D
  | .lst xs, lo, hi => some (.lst (cutD xs lo hi))
  | _, _, _ => none
def mSl (a : ME) (l h : MO) : ME := fun Γ => (a Γ).bind fun x => (l Γ).bind fun lo => (h Γ).bind fun hi => dSl x lo hi
def mSlL (a : ME) (l h : MO) : ME := fun Γ => (a Γ).bind fun x => (l Γ).bind fun lo => (h Γ).bind fun hi => dSlL x lo hi
theorem cut_rep {K : PySem.W.Frag} {F : Hp} {vs : List V} {ds : List D} (r : RepL K F vs ds) (lo hi : Option Int) : RepL K F (cutV vs lo hi) (cutD ds lo hi) := by
  unfold cutV cutD
  rw [r.length]
  exact (r.drop _).take _
section
variable {X : Cx} {a : Expr} {lo hi : Option Expr} {e : Expr} {pos p2 : Pos} {ma : ME} {ml mh : MO}
theorem r_ono : PO X none (rdO X.K mONone) := ⟨fun pins s σ H Q I ⟨H0, F, Γ, o, R, z, q⟩ => po_none.run pins s σ H Q I (by cases z; exact q H F (.refl R.fh))⟩
theorem r_oso (h : PE X e (rdB X.K ma)) : PO X (some e) (rdO X.K (mOSome ma)) := ⟨fun pins s σ H Q I ⟨H0, F, Γ, o, R, z, q⟩ => (po_some h).run pins s σ H Q I (by
  obtain ⟨d, ed, z⟩ := Option.bind_eq_some_iff.mp z
  refine ⟨H0, F, Γ, d, R, ed, fun v H' F' E rv => ?_⟩
  unfold dInt at z
  split at z
  · cases z
    exact ⟨_, rv.int, q H' F' E⟩
  · cases z)⟩
def rSlB (K : PySem.W.Frag) : V → Option Int → Option Int → Hp → VK → Prop := fun x lo hi H Q => rSlL K x lo hi H Q ∨ rSlA K x lo hi H Q
theorem r_sl (ha : PE X a (rdB X.K ma)) (hl : PO X lo (rdO X.K ml)) (hh : PO X hi (rdO X.K mh)) : PE X (.Subscript a (.Slice lo hi none p2) pos) (rdE X.K (mSl ma ml mh)) :=
  PE.wk (pe_slice (r := rSlB X.K) (sl_list.or sl_tupA) ha hl hh) fun σ H Q ⟨H0, F, Γ, d, R, z, q⟩ => by
    obtain ⟨dx, ex, z⟩ := Option.bind_eq_some_iff.mp z
    obtain ⟨dl, el, z⟩ := Option.bind_eq_some_iff.mp z
    obtain ⟨dh, eh, z⟩ := Option.bind_eq_some_iff.mp z
    refine ⟨H0, F, Γ, dx, R, ex, fun x H1 F1 E1 rx => ⟨H0, F1, Γ, dl, R.ext E1, el, fun H2 F2 E2 => ⟨H0, F2, Γ, dh, (R.ext E1).ext E2, eh, fun H3 F3 E3 => ?_⟩⟩⟩
    have E := (E1.trans E2).trans E3
    have rx3 := (rx.ext E2).ext E3
    unfold dSl at z
    split at z
    · cases z
      obtain ⟨p, vs, rfl, h1, r1⟩ := rx3.tup
      refine .inr ⟨p, vs, rfl, .of (E3.fh _ _ h1), fun w => ?_, fun w t nt => ?_⟩
      · refine q _ H3 F3 E (.ob h1 (.tup ?_))
        have c := cut_rep r1 dl dh
        have e : cutV vs dl dh = vs := by
          unfold cutV
          rw [w.1, w.2, List.drop_zero, Nat.sub_zero, List.take_length]
        rw [e] at c
        exact c
      · have E4 := Ext.laid E3.fh (o := .tup (cutV vs dl dh)) nt
        exact q _ _ _ (E.trans E4) (.ob upd_same (.tup ((cut_rep r1 dl dh).mono E4.f)))
    · cases z
      obtain ⟨p, vs, rfl, h1, r1⟩ := rx3.lst E3.fh
      refine .inl ⟨p, vs, rfl, .of h1, fun t nt => ?_⟩
      have E4 := Ext.laid E3.fh (o := .lst (cutV vs dl dh)) nt
      exact q _ _ _ (E.trans E4) (.ob upd_same (.lst ((cut_rep r1 dl dh).mono E4.f)))
    · cases z
theorem r_slN (ha : PE X a (rdB X.K ma)) (hl : PO X lo (rdO X.K ml)) (hh : PO X hi (rdO X.K mh)) : PE X (.Subscript a (.Slice lo hi none p2) pos) (rdN X.K (mSlL ma ml mh)) :=
  PE.wk (pe_slice sl_list ha hl hh) fun σ H Q ⟨H0, F, Γ, d, R, z, q⟩ => by
    obtain ⟨dx, ex, z⟩ := Option.bind_eq_some_iff.mp z
    obtain ⟨dl, el, z⟩ := Option.bind_eq_some_iff.mp z
    obtain ⟨dh, eh, z⟩ := Option.bind_eq_some_iff.mp z
    refine ⟨H0, F, Γ, dx, R, ex, fun x H1 F1 E1 rx => ⟨H0, F1, Γ, dl, R.ext E1, el, fun H2 F2 E2 => ⟨H0, F2, Γ, dh, (R.ext E1).ext E2, eh, fun H3 F3 E3 => ?_⟩⟩⟩
    have E := (E1.trans E2).trans E3
    have rx3 := (rx.ext E2).ext E3
    unfold dSlL at z
    split at z
    · cases z
      obtain ⟨p, vs, rfl, h1, r1⟩ := rx3.lst E3.fh
      refine ⟨p, vs, rfl, .of h1, fun t nt => ?_⟩
      exact q t _ _ F3 (E.trans (Ext.own E3.fh nt)) (E.h.free nt) (E3.fh.free nt) upd_same rfl (.lst (cut_rep r1 dl dh))
    · cases z
/-- xs[::-1] of a list -/
def dRevL : D → Option D
  | .lst xs => some (.lst xs.reverse)
  | _ => none
theorem r_revN {k : Nat} {p1 p3 : Pos} (ha : PE X a (rdB X.K ma)) : PE X (.Subscript a (.Slice none none (some (.UnaryOp .USub (.Constant (.int 1) k p1) p2)) p3) pos) (rdN X.K (mUn dRevL ma)) :=
  PE.wk (pe_revL ha) fun σ H Q h => oneN (h := fun x H1 Q => ∃ a xs, x = V.ref a ∧ SqL X.K H1 a xs ∧ ∀ p, H1 p = none → Q (.ref p) (upd H1 p (.lst xs.reverse))) (fun F H x dx d Q s rx e q => by
    unfold dRevL at e
    split at e
    · cases e
      obtain ⟨p, vs, rfl, h1, r1⟩ := rx.lst s
      refine ⟨p, vs, rfl, .of h1, fun t nt => ?_⟩
      exact q t _ _ F (Ext.own s nt) nt (s.free nt) upd_same rfl (.lst r1.reverse)
    · cases e) h
end
end SK

set_option Elab.async false
set_option linter.all false
set_option maxRecDepth 100000
set_option maxHeartbeats 4000000
set_option autoImplicit false
namespace SK
open PySem PySem.Spec PyProof.Rows L2

/-! ### what comes to a slot -/
def SlotNew (K : PySem.W.Frag) (H F' H' : Hp) (v : V) : Slot → Prop
  | .emp => False
  | .val d => Rep K F' v d
  | .own d => d.isM = true ∧ ∃ a o, v = .ref a ∧ H a = none ∧ F' a = none ∧ H' a = some o ∧ ObR K F' o d
abbrev MX := En → Option Slot
def rdX (K : PySem.W.Frag) (m : MX) : TE := fun σ H Q => ∃ H0 F Γ s, Rel K H0 F H σ Γ ∧ m Γ = some s ∧ ∀ v H' F', Ext F H F' H' → SlotNew K H F' H' v s → Q v H'
def xV (m : ME) : MX := fun Γ => (m Γ).map .val
def xO (m : ME) : MX := fun Γ => (m Γ).map .own
section
variable {X : Cx} {e : Expr} {m : ME}
theorem toV (h : PE X e (rdE X.K m)) : PE X e (rdX X.K (xV m)) := PE.wk h fun σ H Q ⟨H0, F, Γ, s, R, z, q⟩ => by
  obtain ⟨d, e, rfl⟩ := Option.map_eq_some_iff.mp z
  exact ⟨H0, F, Γ, d, R, e, fun v H' F' E r => q v H' F' E r⟩
theorem toO (h : PE X e (rdN X.K m)) : PE X e (rdX X.K (xO m)) := PE.wk h fun σ H Q ⟨H0, F, Γ, s, R, z, q⟩ => by
  obtain ⟨d, e, rfl⟩ := Option.map_eq_some_iff.mp z
  exact ⟨H0, F, Γ, d, R, e, fun a o H' F' E n fa ha m r => q _ H' F' E ⟨m, a, o, rfl, n, fa, ha, r⟩⟩
end
theorem Rel.setX {K : PySem.W.Frag} {H0 F H F' H' : Hp} {σ : L2.St} {Γ : En} (R : Rel K H0 F H σ Γ) (E : Ext F H F' H') {v : V} {s : Slot} (h : SlotNew K H F' H' v s) (i : Nat) : Rel K H0 F' H' (σ.set i (some v)) (Γ.set i s) := by
  cases s with
  | emp => exact h.elim
  | val d => exact (R.ext E).setVal i h
  | own d =>
    obtain ⟨m, a, o, rfl, n, fa, ha, r⟩ := h
    exact (R.ext E).setOwn i m fa (R.h0.free n) ha r (R.newOff n)

/-! ### calls of built-ins -/
def mCall (f : List D → Option D) (ms : MA) : ME := fun Γ => (ms Γ).bind f
def Fn1 (K : PySem.W.Frag) (f : List D → Option D) (r : List V → Hp → VK → Prop) : Prop :=
  ∀ F H vs ds d Q, Same F H → RepBL K F H vs ds → f ds = some d → (∀ v H' F', Ext F H F' H' → Rep K F' v d → Q v H') → r vs H Q
def Fn1N (K : PySem.W.Frag) (f : List D → Option D) (r : List V → Hp → VK → Prop) : Prop :=
  ∀ F H vs ds d Q, Same F H → RepBL K F H vs ds → f ds = some d → (∀ a o H' F', Ext F H F' H' → H a = none → F' a = none → H' a = some o → d.isM = true → ObR K F' o d → Q (.ref a) H') → r vs H Q
section
variable {X : Cx} {x : Str} {p pos : Pos} {e : Expr} {es : List Expr} {ms : MA} {id T : String} {f : List D → Option D} {r : List V → Hp → VK → Prop}
theorem r_callB (hc : CallR X (.builtin id) r) (hf : Fn1 X.K f r) (hg : Gl X x) (hm : X.mg x = none) (hv : bootBuiltins x = some (.builtin id)) (ha : PA X (e :: es) (rdAB X.K ms)) (hn : x ≠ "__name__" := by decide) (hdb : (x == ("__debug__" : Str)) = false := by decide)
    (he : starEach (e :: es) X.env = (false, eval e X.env) :: starEach es X.env := by rfl) (hpl : (backTo pos (starEach es X.env)).any (·.1) = false := by rfl) : PE X (.Call (.Name x p) (e :: es) [] pos) (rdE X.K (mCall f ms)) :=
  PE.wk (pe_callB hc hg hm hv ha hn hdb he hpl) fun σ H Q ⟨H0, F, Γ, d, R, z, q⟩ => by
    obtain ⟨ds, ed, z⟩ := Option.bind_eq_some_iff.mp z
    exact ⟨H0, F, Γ, ds, R, ed, fun vs H1 F1 E1 r1 => hf F1 H1 vs ds d Q E1.fh r1 z fun v H' F' E2 rv => q v H' F' (E1.trans E2) rv⟩
theorem r_callBN (hc : CallR X (.builtin id) r) (hf : Fn1N X.K f r) (hg : Gl X x) (hm : X.mg x = none) (hv : bootBuiltins x = some (.builtin id)) (ha : PA X (e :: es) (rdAB X.K ms)) (hn : x ≠ "__name__" := by decide) (hdb : (x == ("__debug__" : Str)) = false := by decide)
    (he : starEach (e :: es) X.env = (false, eval e X.env) :: starEach es X.env := by rfl) (hpl : (backTo pos (starEach es X.env)).any (·.1) = false := by rfl) : PE X (.Call (.Name x p) (e :: es) [] pos) (rdN X.K (mCall f ms)) :=
  PE.wk (pe_callB hc hg hm hv ha hn hdb he hpl) fun σ H Q ⟨H0, F, Γ, d, R, z, q⟩ => by
    obtain ⟨ds, ed, z⟩ := Option.bind_eq_some_iff.mp z
    exact ⟨H0, F, Γ, ds, R, ed, fun vs H1 F1 E1 r1 => hf F1 H1 vs ds d Q E1.fh r1 z fun a o H' F' E2 n => q a o H' F' (E1.trans E2) (E1.h.free n)⟩
theorem r_callT (hc : CallR X (.type T) r) (hf : Fn1 X.K f r) (hg : Gl X x) (hm : X.mg x = none) (hv : bootBuiltins x = some (.type T)) (ha : PA X (e :: es) (rdAB X.K ms)) (hn : x ≠ "__name__" := by decide) (hdb : (x == ("__debug__" : Str)) = false := by decide)
    (he : starEach (e :: es) X.env = (false, eval e X.env) :: starEach es X.env := by rfl) (hpl : (backTo pos (starEach es X.env)).any (·.1) = false := by rfl) : PE X (.Call (.Name x p) (e :: es) [] pos) (rdE X.K (mCall f ms)) :=
  PE.wk (pe_callTy hc hg hm hv ha hn hdb he hpl) fun σ H Q ⟨H0, F, Γ, d, R, z, q⟩ => by
    obtain ⟨ds, ed, z⟩ := Option.bind_eq_some_iff.mp z
    exact ⟨H0, F, Γ, ds, R, ed, fun vs H1 F1 E1 r1 => hf F1 H1 vs ds d Q E1.fh r1 z fun v H' F' E2 rv => q v H' F' (E1.trans E2) rv⟩
theorem r_callTN (hc : CallR X (.type T) r) (hf : Fn1N X.K f r) (hg : Gl X x) (hm : X.mg x = none) (hv : bootBuiltins x = some (.type T)) (ha : PA X (e :: es) (rdAB X.K ms)) (hn : x ≠ "__name__" := by decide) (hdb : (x == ("__debug__" : Str)) = false := by decide)
    (he : starEach (e :: es) X.env = (false, eval e X.env) :: starEach es X.env := by rfl) (hpl : (backTo pos (starEach es X.env)).any (·.1) = false := by rfl) : PE X (.Call (.Name x p) (e :: es) [] pos) (rdN X.K (mCall f ms)) :=
  PE.wk (pe_callTy hc hg hm hv ha hn hdb he hpl) fun σ H Q ⟨H0, F, Γ, d, R, z, q⟩ => by
    obtain ⟨ds, ed, z⟩ := Option.bind_eq_some_iff.mp z
    exact ⟨H0, F, Γ, ds, R, ed, fun vs H1 F1 E1 r1 => hf F1 H1 vs ds d Q E1.fh r1 z fun a o H' F' E2 n => q a o H' F' (E1.trans E2) (E1.h.free n)⟩
end
section
variable {K : PySem.W.Frag} {F H : Hp}
theorem bl1 {vs : List V} {d : D} (r : RepBL K F H vs [d]) : ∃ v, vs = [v] ∧ RepB K F H v d := by
  cases r with | cons h r => cases r; exact ⟨_, rfl, h⟩
theorem bl2 {vs : List V} {d e : D} (r : RepBL K F H vs [d, e]) : ∃ v w, vs = [v, w] ∧ RepB K F H v d ∧ RepB K F H w e := by
  cases r with | cons h r => cases r with | cons h2 r => cases r; exact ⟨_, _, rfl, h, h2⟩
def dLen : List D → Option D
  | [.tup xs] => some (.int xs.length)
  | [.lst xs] => some (.int xs.length)
  | [.scr ns] => some (.int ns.length)
  | [.str s] => if s.length ≤ LIM then some (.int s.length) else none
  | _ => none
def rLenV (K : PySem.W.Frag) : List V → Hp → VK → Prop := fun xs H Q => ∃ x n, xs = [x] ∧ LenV K x H n ∧ Q (.int n) H
theorem d_len : Fn1 K dLen (rLenV K) := by
  intro F H vs ds d Q s r e q
  unfold dLen at e
  split at e
  · cases e
    obtain ⟨v, rfl, rr⟩ := bl1 r
    obtain ⟨a, ws, rfl, h1, r1⟩ := rr.tup
    exact ⟨_, _, rfl, .inr ⟨ws, .of (s _ _ h1), r1.length.symm⟩, q _ H F (.refl s) (.int _)⟩
  · cases e
    obtain ⟨v, rfl, rr⟩ := bl1 r
    obtain ⟨a, ws, rfl, h1, r1⟩ := rr.lst s
    exact ⟨_, _, rfl, .inl ⟨ws, .of h1, r1.length.symm⟩, q _ H F (.refl s) (.int _)⟩
  · cases e
    obtain ⟨v, rfl, rr⟩ := bl1 r
    obtain ⟨a, rfl, h1⟩ := (rr.full rfl).scrI
    exact ⟨_, _, rfl, .inl ⟨_, s.seq h1, (List.length_map ..).symm⟩, q _ H F (.refl s) (.int _)⟩
  · split at e
    · rename_i c
      cases e
      obtain ⟨v, rfl, rr⟩ := bl1 r
      exact ⟨_, _, rfl, (by rw [rr.str]; exact ⟨by rw [← lim_line]; exact c, rfl⟩), q _ H F (.refl s) (.int _)⟩
    · cases e
  · cases e
def dAbs : List D → Option D
  | [.int i] => some (.int (if i < 0 then -i else i))
  | _ => none
theorem d_abs : Fn1 K dAbs (fun xs H Q => ∃ i, xs = [.int i] ∧ Q (.int (if i < 0 then -i else i)) H) := by
  intro F H vs ds d Q s r e q
  unfold dAbs at e
  split at e
  · cases e
    obtain ⟨v, rfl, rr⟩ := bl1 r
    exact ⟨_, (by rw [rr.int]), q _ H F (.refl s) (.int _)⟩
  · cases e
def dMax2 : List D → Option D
  | [.int i, .int j] => some (.int (if j > i then j else i))
  | _ => none
theorem d_max2 : Fn1 K dMax2 (fun xs H Q => ∃ i j, xs = [.int i, .int j] ∧ Q (.int (if j > i then j else i)) H) := by
  intro F H vs ds d Q s r e q
  unfold dMax2 at e
  split at e
  · cases e
    obtain ⟨v, w, rfl, r1, r2⟩ := bl2 r
    exact ⟨_, _, (by rw [r1.int, r2.int]), q _ H F (.refl s) (.int _)⟩
  · cases e
def dMin2 : List D → Option D
  | [.int i, .int j] => some (.int (if j < i then j else i))
  | _ => none
theorem d_min2 : Fn1 K dMin2 (fun xs H Q => ∃ i j, xs = [.int i, .int j] ∧ Q (.int (if j < i then j else i)) H) := by
  intro F H vs ds d Q s r e q
  unfold dMin2 at e
  split at e
  · cases e
    obtain ⟨v, w, rfl, r1, r2⟩ := bl2 r
    exact ⟨_, _, (by rw [r1.int, r2.int]), q _ H F (.refl s) (.int _)⟩
  · cases e
def dInt1 : List D → Option D
  | [.int i] => some (.int i)
  | [.bl k] => some (.int (if k then 1 else 0))
  | _ => none
theorem d_int1 : Fn1 K dInt1 (fun xs H Q => (∃ i, xs = [.int i] ∧ Q (.int i) H) ∨ ∃ k, xs = [.bl k] ∧ Q (.int (if k then 1 else 0)) H) := by
  intro F H vs ds d Q s r e q
  unfold dInt1 at e
  split at e
  · cases e
    obtain ⟨v, rfl, rr⟩ := bl1 r
    exact .inl ⟨_, (by rw [rr.int]), q _ H F (.refl s) (.int _)⟩
  · cases e
    obtain ⟨v, rfl, rr⟩ := bl1 r
    exact .inr ⟨_, (by rw [rr.bl]), q _ H F (.refl s) (.int _)⟩
  · cases e
/-! lists of ints, of bools -/
def intsOf : List D → Option (List Int)
  | [] => some []
  | .int i :: r => (intsOf r).map (i :: ·)
  | _ => none
def blsOf : List D → Option (List Bool)
  | [] => some []
  | .bl i :: r => (blsOf r).map (i :: ·)
  | _ => none
theorem Rep.intI {v : V} {i : Int} (r : Rep K F v (.int i)) : v = .int i := (show RepB K F F v (.int i) from .inl r).int
theorem Rep.blI {v : V} {i : Bool} (r : Rep K F v (.bl i)) : v = .bl i := (show RepB K F F v (.bl i) from .inl r).bl
theorem ints_rep : ∀ {ds : List D} {vs : List V} {ns : List Int}, intsOf ds = some ns → RepL K F vs ds → vs = ns.map V.int
  | [], _, _, e, r => by cases e; cases r; rfl
  | .int i :: ds, _, _, e, r => by
    obtain ⟨ms, e1, rfl⟩ := Option.map_eq_some_iff.mp e
    cases r with
    | cons h r => rw [h.intI, ints_rep e1 r]; rfl
  | .non :: _, _, _, e, _ => by cases e
  | .bl _ :: _, _, _, e, _ => by cases e
  | .str _ :: _, _, _, e, _ => by cases e
  | .tup _ :: _, _, _, e, _ => by cases e
  | .lst _ :: _, _, _, e, _ => by cases e
  | .scr _ :: _, _, _, e, _ => by cases e
theorem bls_rep : ∀ {ds : List D} {vs : List V} {ns : List Bool}, blsOf ds = some ns → RepL K F vs ds → vs = ns.map V.bl
  | [], _, _, e, r => by cases e; cases r; rfl
  | .bl i :: ds, _, _, e, r => by
    obtain ⟨ms, e1, rfl⟩ := Option.map_eq_some_iff.mp e
    cases r with
    | cons h r => rw [h.blI, bls_rep e1 r]; rfl
  | .non :: _, _, _, e, _ => by cases e
  | .int _ :: _, _, _, e, _ => by cases e
  | .str _ :: _, _, _, e, _ => by cases e
  | .tup _ :: _, _, _, e, _ => by cases e
  | .lst _ :: _, _, _, e, _ => by cases e
  | .scr _ :: _, _, _, e, _ => by cases e
theorem rep_ints : ∀ ns : List Int, RepL K F (ns.map V.int) (ns.map D.int)
  | [] => .nil
  | n :: ns => .cons (.int n) (rep_ints ns)
theorem intsOf_map : ∀ ns : List Int, intsOf (ns.map D.int) = some ns
  | [] => rfl
  | n :: ns => by simp only [List.map_cons, intsOf, intsOf_map ns, Option.map_some]
theorem blsOf_map : ∀ ns : List Bool, blsOf (ns.map D.bl) = some ns
  | [] => rfl
  | n :: ns => by simp only [List.map_cons, blsOf, blsOf_map ns, Option.map_some]
def dSum : List D → Option D
  | [.lst xs] => (intsOf xs).map fun ns => .int ns.sum
  | _ => none
theorem d_sum : Fn1 K dSum (rSum K) := by
  intro F H vs ds d Q s r e q
  unfold dSum at e
  split at e
  · obtain ⟨ns, e1, rfl⟩ := Option.map_eq_some_iff.mp e
    obtain ⟨v, rfl, rr⟩ := bl1 r
    obtain ⟨a, ws, rfl, h1, r1⟩ := rr.lst s
    rw [ints_rep e1 r1] at h1
    exact ⟨a, ns, rfl, .of h1, q _ H F (.refl s) (.int _)⟩
  · cases e
def maxI : Int → List Int → Int
  | m, [] => m
  | m, x :: xs => maxI (if m < x then x else m) xs
def minI : Int → List Int → Int
  | m, [] => m
  | m, x :: xs => minI (if x < m then x else m) xs
theorem maxI_ok : ∀ (xs : List Int) (m : Int), maxI m xs ∈ m :: xs ∧ ∀ y ∈ m :: xs, y ≤ maxI m xs
  | [], m => ⟨List.mem_cons_self, fun y h => by rw [List.mem_singleton.mp h]; exact Int.le_refl _⟩
  | x :: xs, m => by
    show maxI (if m < x then x else m) xs ∈ _ ∧ ∀ y ∈ m :: x :: xs, y ≤ maxI (if m < x then x else m) xs
    have ht : ∃ t, t = (if m < x then x else m) ∧ m ≤ t ∧ x ≤ t ∧ (t = m ∨ t = x) := by
      refine ⟨_, rfl, ?_⟩
      split <;> omega
    obtain ⟨t, e, t1, t2, t3⟩ := ht
    rw [← e]
    obtain ⟨h1, h2⟩ := maxI_ok xs t
    refine ⟨?_, fun y hy => ?_⟩
    · rcases List.mem_cons.mp h1 with h | h
      · rw [h]
        rcases t3 with rfl | rfl
        · exact List.mem_cons_self
        · exact List.mem_cons_of_mem _ List.mem_cons_self
      · exact List.mem_cons_of_mem _ (List.mem_cons_of_mem _ h)
    · have hm := h2 t List.mem_cons_self
      rcases List.mem_cons.mp hy with e | hy
      · omega
      · rcases List.mem_cons.mp hy with e | hy
        · omega
        · exact h2 y (List.mem_cons_of_mem _ hy)
theorem minI_ok : ∀ (xs : List Int) (m : Int), minI m xs ∈ m :: xs ∧ ∀ y ∈ m :: xs, minI m xs ≤ y
  | [], m => ⟨List.mem_cons_self, fun y h => by rw [List.mem_singleton.mp h]; exact Int.le_refl _⟩
  | x :: xs, m => by
    show minI (if x < m then x else m) xs ∈ _ ∧ ∀ y ∈ m :: x :: xs, minI (if x < m then x else m) xs ≤ y
    have ht : ∃ t, t = (if x < m then x else m) ∧ t ≤ m ∧ t ≤ x ∧ (t = m ∨ t = x) := by
      refine ⟨_, rfl, ?_⟩
      split <;> omega
    obtain ⟨t, e, t1, t2, t3⟩ := ht
    rw [← e]
    obtain ⟨h1, h2⟩ := minI_ok xs t
    refine ⟨?_, fun y hy => ?_⟩
    · rcases List.mem_cons.mp h1 with h | h
      · rw [h]
        rcases t3 with rfl | rfl
        · exact List.mem_cons_self
        · exact List.mem_cons_of_mem _ List.mem_cons_self
      · exact List.mem_cons_of_mem _ (List.mem_cons_of_mem _ h)
    · have hm := h2 t List.mem_cons_self
      rcases List.mem_cons.mp hy with e | hy
      · omega
      · rcases List.mem_cons.mp hy with e | hy
        · omega
        · exact h2 y (List.mem_cons_of_mem _ hy)
def dMax1 : List D → Option D
  | [.lst xs] => (intsOf xs).bind fun ns => match ns with
    | [] => none
    | n :: ms => some (.int (maxI n ms))
  | _ => none
def dMin1 : List D → Option D
  | [.lst xs] => (intsOf xs).bind fun ns => match ns with
    | [] => none
    | n :: ms => some (.int (minI n ms))
  | _ => none
theorem d_max1 : Fn1 K dMax1 (rMax K) := by
  intro F H vs ds d Q s r e q
  unfold dMax1 at e
  split at e
  · obtain ⟨ns, e1, e⟩ := Option.bind_eq_some_iff.mp e
    obtain ⟨v, rfl, rr⟩ := bl1 r
    obtain ⟨a, ws, rfl, h1, r1⟩ := rr.lst s
    rw [ints_rep e1 r1] at h1
    split at e
    · cases e
    · rename_i n ms
      cases e
      refine ⟨a, n :: ms, rfl, .of h1, Nat.zero_lt_succ _, fun m hm hy => ?_⟩
      obtain ⟨c1, c2⟩ := maxI_ok ms n
      have : m = maxI n ms := Int.le_antisymm (c2 m hm) (hy _ c1)
      rw [this]
      exact q _ H F (.refl s) (.int _)
  · cases e
theorem d_min1 : Fn1 K dMin1 (rMin K) := by
  intro F H vs ds d Q s r e q
  unfold dMin1 at e
  split at e
  · obtain ⟨ns, e1, e⟩ := Option.bind_eq_some_iff.mp e
    obtain ⟨v, rfl, rr⟩ := bl1 r
    obtain ⟨a, ws, rfl, h1, r1⟩ := rr.lst s
    rw [ints_rep e1 r1] at h1
    split at e
    · cases e
    · rename_i n ms
      cases e
      refine ⟨a, n :: ms, rfl, .of h1, Nat.zero_lt_succ _, fun m hm hy => ?_⟩
      obtain ⟨c1, c2⟩ := minI_ok ms n
      have : m = minI n ms := Int.le_antisymm (hy _ c1) (c2 m hm)
      rw [this]
      exact q _ H F (.refl s) (.int _)
  · cases e
def dAny : List D → Option D
  | [.lst xs] => (blsOf xs).map fun bs => .bl (bs.any id)
  | _ => none
def dAll : List D → Option D
  | [.lst xs] => (blsOf xs).map fun bs => .bl (bs.all id)
  | _ => none
theorem d_any : Fn1 K dAny (rAny K) := by
  intro F H vs ds d Q s r e q
  unfold dAny at e
  split at e
  · obtain ⟨ns, e1, rfl⟩ := Option.map_eq_some_iff.mp e
    obtain ⟨v, rfl, rr⟩ := bl1 r
    obtain ⟨a, ws, rfl, h1, r1⟩ := rr.lst s
    rw [bls_rep e1 r1] at h1
    exact ⟨a, ns, rfl, .of h1, q _ H F (.refl s) (.bl _)⟩
  · cases e
theorem d_all : Fn1 K dAll (rAll K) := by
  intro F H vs ds d Q s r e q
  unfold dAll at e
  split at e
  · obtain ⟨ns, e1, rfl⟩ := Option.map_eq_some_iff.mp e
    obtain ⟨v, rfl, rr⟩ := bl1 r
    obtain ⟨a, ws, rfl, h1, r1⟩ := rr.lst s
    rw [bls_rep e1 r1] at h1
    exact ⟨a, ns, rfl, .of h1, q _ H F (.refl s) (.bl _)⟩
  · cases e
def dTuple : List D → Option D
  | [.lst xs] => some (.tup xs)
  | [.tup xs] => some (.tup xs)
  | _ => none
def rTupOf (K : PySem.W.Frag) : List V → Hp → VK → Prop := fun xs H Q => ∃ p ys, xs = [.ref p] ∧ ((SqL K H p ys ∧ ∀ l, H l = none → Q (.ref l) (upd H l (.tup ys))) ∨ (SqT K H p ys ∧ Q (.ref p) H))
theorem d_tuple : Fn1 K dTuple (rTupOf K) := by
  intro F H vs ds d Q s r e q
  unfold dTuple at e
  split at e
  · cases e
    obtain ⟨v, rfl, rr⟩ := bl1 r
    obtain ⟨a, ws, rfl, h1, r1⟩ := rr.lst s
    refine ⟨a, ws, rfl, .inl ⟨.of h1, fun l nl => ?_⟩⟩
    have E := Ext.laid s (o := .tup ws) nl
    exact q _ _ _ E (.ob upd_same (.tup (r1.mono E.f)))
  · cases e
    obtain ⟨v, rfl, rr⟩ := bl1 r
    obtain ⟨a, ws, rfl, h1, r1⟩ := rr.tup
    exact ⟨a, ws, rfl, .inr ⟨.of (s _ _ h1), q _ H F (.refl s) (.ob h1 (.tup r1))⟩⟩
  · cases e
def dList : List D → Option D
  | [.lst xs] => some (.lst xs)
  | [.tup xs] => some (.lst xs)
  | _ => none
def rListOf (K : PySem.W.Frag) : List V → Hp → VK → Prop := fun xs H Q => ∃ p ys, xs = [.ref p] ∧ (SqL K H p ys ∨ SqT K H p ys) ∧ ∀ l, H l = none → Q (.ref l) (upd H l (.lst ys))
theorem d_list : Fn1N K dList (rListOf K) := by
  intro F H vs ds d Q s r e q
  unfold dList at e
  split at e
  · cases e
    obtain ⟨v, rfl, rr⟩ := bl1 r
    obtain ⟨a, ws, rfl, h1, r1⟩ := rr.lst s
    exact ⟨a, ws, rfl, .inl (.of h1), fun l nl => q l _ _ F (Ext.own s nl) nl (s.free nl) upd_same rfl (.lst r1)⟩
  · cases e
    obtain ⟨v, rfl, rr⟩ := bl1 r
    obtain ⟨a, ws, rfl, h1, r1⟩ := rr.tup
    exact ⟨a, ws, rfl, .inr (.of (s _ _ h1)), fun l nl => q l _ _ F (Ext.own s nl) nl (s.free nl) upd_same rfl (.lst r1)⟩
  · cases e
end

/-! ### range as a value: list(range(..)), tuple(range(..)) -/
def rngD (a b : Int) : List D := (List.range (b - a).toNat).map fun i => D.int (a + (i : Nat))
def okR (a b : Int) : Bool := decide (-1000000 ≤ a) && decide (a ≤ 1000000) && decide (-1000000 ≤ b) && decide (b ≤ 1000000)
theorem okR_bounds {a b : Int} (h : okR a b = true) : -1000000 ≤ a ∧ a ≤ 1000000 ∧ -1000000 ≤ b ∧ b ≤ 1000000 := by
  unfold okR at h
  simp only [Bool.and_eq_true, decide_eq_true_eq] at h
  omega
theorem big62 : (2 : Int) ^ 62 = 4611686018427387904 := by decide
theorem okR_rg {a b : Int} (h : okR a b = true) : RgOk a b := by
  obtain ⟨h1, h2, h3, h4⟩ := okR_bounds h
  unfold RgOk
  rw [big62]
  refine ⟨by omega, by omega, by omega, by omega, ?_⟩
  have : (2 : Nat) ^ 24 = 16777216 := by decide
  rw [this]
  omega
theorem rep_rng {K : PySem.W.Frag} {F : Hp} (a b : Int) : RepL K F (rgV a b) (rngD a b) := by
  unfold rgV rngD
  generalize List.range (b - a).toNat = l
  induction l with
  | nil => exact .nil
  | cons x l ih => exact .cons (.int _) ih
abbrev MR := En → Option (Int × Int)
def rdR (K : PySem.W.Frag) (m : MR) : L2.St → Hp → (Int → Int → Hp → Prop) → Prop := fun σ H Q => ∃ H0 F Γ p, Rel K H0 F H σ Γ ∧ m Γ = some p ∧ ∀ H' F', Ext F H F' H' → Q p.1 p.2 H'
def dI : D → Option Int
  | .int i => some i
  | _ => none
def mR1 (a : ME) : MR := fun Γ => ((a Γ).bind dI).map fun n => (0, n)
def mR2 (a b : ME) : MR := fun Γ => ((a Γ).bind dI).bind fun i => ((b Γ).bind dI).map fun j => (i, j)
section
variable {X : Cx} {a b : Expr} {p pos : Pos} {ma mb : ME} {mr : MR} {e : Expr}
theorem dI_some {d : D} {i : Int} (h : dI d = some i) : d = .int i := by
  unfold dI at h
  split at h
  · cases h; rfl
  · cases h
theorem r_rg1 (hg : Gl X "range") (hm : X.mg "range" = none) (ha : PE X a (rdB X.K ma)) (na : starEach [a] X.env = (false, eval a X.env) :: starEach [] X.env := by rfl) : PRg X (.Call (.Name "range" p) [a] [] pos) (rdR X.K (mR1 ma)) :=
  fun pins s σ H Q I ⟨H0, F, Γ, z, R, e, q⟩ => prg_1 hg hm ha na pins s σ H Q I (by
    obtain ⟨i, e1, rfl⟩ := Option.map_eq_some_iff.mp e
    obtain ⟨d, e3, e2⟩ := Option.bind_eq_some_iff.mp e1
    rw [dI_some e2] at e3
    exact ⟨H0, F, Γ, _, R, e3, fun v H' F' E r => ⟨i, r.int, q H' F' E⟩⟩)
theorem r_rg2 (hg : Gl X "range") (hm : X.mg "range" = none) (ha : PE X a (rdB X.K ma)) (hb : PE X b (rdB X.K mb)) (na : starEach [a, b] X.env = (false, eval a X.env) :: starEach [b] X.env := by rfl)
    (nb : starEach [b] X.env = (false, eval b X.env) :: starEach [] X.env := by rfl) (nc : ∀ p, ((backTo p (starEach [b] X.env)).any fun x => x.1) = false := by intro _; rfl) : PRg X (.Call (.Name "range" p) [a, b] [] pos) (rdR X.K (mR2 ma mb)) :=
  fun pins s σ H Q I ⟨H0, F, Γ, z, R, e, q⟩ => prg_2 hg hm ha hb na nb (nc _) pins s σ H Q I (by
    obtain ⟨i, e1, e3⟩ := Option.bind_eq_some_iff.mp e
    obtain ⟨d, e6, e2⟩ := Option.bind_eq_some_iff.mp e1
    obtain ⟨j, e5, rfl⟩ := Option.map_eq_some_iff.mp e3
    obtain ⟨d', e7, e4⟩ := Option.bind_eq_some_iff.mp e5
    rw [dI_some e2] at e6
    rw [dI_some e4] at e7
    exact ⟨H0, F, Γ, _, R, e6, fun v H' F' E r => ⟨H0, F', Γ, _, R.ext E, e7, fun w H2 F2 E2 r2 => ⟨i, j, r.int, r2.int, q H2 F2 (E.trans E2)⟩⟩⟩)
def mLstR (m : MR) : ME := fun Γ => (m Γ).bind fun p => if okR p.1 p.2 then some (.lst (rngD p.1 p.2)) else none
def mTupR (m : MR) : ME := fun Γ => (m Γ).bind fun p => if okR p.1 p.2 then some (.tup (rngD p.1 p.2)) else none
theorem r_lstRN (hc : X.calm = true) (hg : Gl X "list") (hm : X.mg "list" = none) (he : PRg X e (rdR X.K mr)) (na : starEach [e] X.env = (false, eval e X.env) :: starEach [] X.env := by rfl) : PE X (.Call (.Name "list" p) [e] [] pos) (rdN X.K (mLstR mr)) :=
  PE.wk (pe_listRg hc hg hm he na) fun σ H Q ⟨H0, F, Γ, d, R, z, q⟩ => by
    obtain ⟨ab, e1, z⟩ := Option.bind_eq_some_iff.mp z
    obtain ⟨c, rfl⟩ := ite_some z
    exact ⟨H0, F, Γ, ab, R, e1, fun H1 F1 E1 => ⟨okR_rg c, fun p np => q p _ _ F1 (E1.trans (Ext.own E1.fh np)) (E1.h.free np) (E1.fh.free np) upd_same rfl (.lst (rep_rng _ _))⟩⟩
theorem r_tupR (hc : X.calm = true) (hg : Gl X "tuple") (hm : X.mg "tuple" = none) (he : PRg X e (rdR X.K mr)) (na : starEach [e] X.env = (false, eval e X.env) :: starEach [] X.env := by rfl) : PE X (.Call (.Name "tuple" p) [e] [] pos) (rdE X.K (mTupR mr)) :=
  PE.wk (pe_tupRg hc hg hm he na) fun σ H Q ⟨H0, F, Γ, d, R, z, q⟩ => by
    obtain ⟨ab, e1, z⟩ := Option.bind_eq_some_iff.mp z
    obtain ⟨c, rfl⟩ := ite_some z
    refine ⟨H0, F, Γ, ab, R, e1, fun H1 F1 E1 => ⟨okR_rg c, fun p np => ?_⟩⟩
    have E := Ext.laid E1.fh (o := .tup (rgV ab.1 ab.2)) np
    exact q _ _ _ (E1.trans E) (.ob upd_same (.tup (rep_rng _ _)))
end

/-! ### calls of defs -/
/-- a def's promise: what m tells of its arguments comes back, all that stood stays -/
def spF (K : PySem.W.Frag) (m : List D → Option D) : Sp := fun vs H Q _ => ∃ F ds d, Same F H ∧ RepL K F vs ds ∧ m ds = some d ∧ ∀ v H' F', Ext F H F' H' → Rep K F' v d → Q v H'
section
variable {X : Cx} {k : Nat} {f : Addr} {fd : FuncData} {ps : List Str} {x : Str} {p pos : Pos} {e : Expr} {es : List Expr} {ms : MA} {m : List D → Option D}
theorem r_call (G : FnOk X.prog X.w X.K X.mg X.base CX0 k f fd ps (spF X.K m)) (hr : Room k X.A) (hg : Gl X x) (hm : X.mg x = some (.ref f)) (hk : PySem.W.keepIn X.K (.ref f) = true) (hb : Binds X.K fd ps []) (ha : PA X (e :: es) (rdA X.K ms))
    (hdb : (x == ("__debug__" : Str)) = false := by decide) (he : starEach (e :: es) X.env = (false, eval e X.env) :: starEach es X.env := by rfl) (hpl : (backTo pos (starEach es X.env)).any (·.1) = false := by rfl) :
    PE X (.Call (.Name x p) (e :: es) [] pos) (rdE X.K (mCall m ms)) :=
  PE.wk (pe_call (E := E0) G hr hg hm hk hb .nil pass0 ha hdb he hpl) fun σ H Q ⟨H0, F, Γ, d, R, z, q⟩ => by
    obtain ⟨ds, ed, z⟩ := Option.bind_eq_some_iff.mp z
    refine ⟨H0, F, Γ, ds, R, ed, fun vs H1 F1 E1 r1 => ?_⟩
    show spF X.K m (vs ++ []) H1 Q E0
    rw [List.append_nil]
    exact ⟨F1, ds, d, E1.fh, r1, z, fun v H' F' E2 rv => q v H' F' (E1.trans E2) rv⟩
def scalO (m : List D → Option D) : List D → Option D := fun ds => (m ds).bind fun d => if d.scal then some d else none
theorem RepBL.all {K : PySem.W.Frag} {F H : Hp} (s : Same F H) : ∀ {vs : List V} {ds : List D}, RepBL K F H vs ds → RepL K H vs ds
  | _, _, .nil => .nil
  | _, _, .cons h r => .cons (by
      rcases h with h | ⟨_, a, o, rfl, h1, h2⟩
      · exact h.mono s
      · exact .ob h1 (h2.mono s)) (RepBL.all s r)
/-- lists of one's own are handed in; what comes back is an int, a bool, a text, None -/
theorem r_callO (G : FnOk X.prog X.w X.K X.mg X.base CX0 k f fd ps (spF X.K m)) (hr : Room k X.A) (hg : Gl X x) (hm : X.mg x = some (.ref f)) (hk : PySem.W.keepIn X.K (.ref f) = true) (hb : Binds X.K fd ps []) (ha : PA X (e :: es) (rdAB X.K ms))
    (hdb : (x == ("__debug__" : Str)) = false := by decide) (he : starEach (e :: es) X.env = (false, eval e X.env) :: starEach es X.env := by rfl) (hpl : (backTo pos (starEach es X.env)).any (·.1) = false := by rfl) :
    PE X (.Call (.Name x p) (e :: es) [] pos) (rdE X.K (mCall (scalO m) ms)) :=
  PE.wk (pe_call (E := E0) G hr hg hm hk hb .nil pass0 ha hdb he hpl) fun σ H Q ⟨H0, F, Γ, d, R, z, q⟩ => by
    obtain ⟨ds, ed, z⟩ := Option.bind_eq_some_iff.mp z
    obtain ⟨d', em, z⟩ := Option.bind_eq_some_iff.mp z
    obtain ⟨c, rfl⟩ := ite_some z
    refine ⟨H0, F, Γ, ds, R, ed, fun vs H1 F1 E1 r1 => ?_⟩
    show spF X.K m (vs ++ []) H1 Q E0
    rw [List.append_nil]
    exact ⟨H1, ds, _, .refl _, r1.all E1.fh, em, fun v H' F' E2 rv => q v H' F1 (E1.trans ⟨.refl _, E2.h, E1.fh.trans E2.h, fun b o e n => (by rw [n] at e; cases e)⟩) (rv.any c)⟩
end
end SK

set_option Elab.async false
set_option linter.all false
set_option maxRecDepth 100000
set_option maxHeartbeats 4000000
set_option autoImplicit false
namespace SK
open PySem PySem.Spec PyProof.Rows L2

/-! ### what is walked -/
/-- an iteration's turns hand out xs, as long as F1 stands -/
structure ItOk (K : PySem.W.Frag) (F1 : Hp) (J : It) (xs : List D) : Prop where
  go : ∀ F H (i : Nat) d, Same F1 F → Same F H → xs[i]? = some d → J.go i H ∧ ∀ x H', J.yld i H x H' → ∃ F', Ext F H F' H' ∧ Rep K F' x d
  stop : ∀ F H, Same F1 F → Same F H → J.stop xs.length H
abbrev ML := En → Option (List D)
def rdI (K : PySem.W.Frag) (m : ML) : TI := fun σ H R => ∃ H0 F Γ xs, Rel K H0 F H σ Γ ∧ m Γ = some xs ∧ ∀ J H' F', Ext F H F' H' → ItOk K F' J xs → R J H'
def itemsD : D → Option (List D)
  | .tup xs => some xs
  | .lst xs => some xs
  | _ => none
def mItems (m : ME) : ML := fun Γ => (m Γ).bind itemsD
section
variable {X : Cx} {tg e a b c : Expr} {p pos : Pos} {ma mb mc : ME} {ms : MA}
theorem PI_or {w1 w2 : TI} (h1 : PI X tg e w1) (h2 : PI X tg e w2) : PI X tg e (fun σ H R => w1 σ H R ∨ w2 σ H R) := ⟨fun pins s σ H R I h => by
  rcases h with h | h
  · exact h1.run pins s σ H R I h
  · exact h2.run pins s σ H R I h⟩
theorem PI_wk {w1 w2 : TI} (h1 : PI X tg e w1) (w : ∀ σ H R, w2 σ H R → w1 σ H R) : PI X tg e w2 := ⟨fun pins s σ H R I h => h1.run pins s σ H R I (w _ _ _ h)⟩
theorem itl_ok {K : PySem.W.Frag} {F1 : Hp} {a : Addr} {vs : List V} {xs : List D} (h : F1 a = some (.lst vs)) (r : RepL K F1 vs xs) : ItOk K F1 (Itl K a) xs := by
  refine ⟨fun F H i d s1 s2 e => ?_, fun F H s1 s2 => ⟨vs, .of (s2 _ _ (s1 _ _ h)), by rw [r.length]; exact Nat.le_refl _⟩⟩
  obtain ⟨v, h1, h2⟩ := r.get e
  have hq : SqL K H a vs := .of (s2 _ _ (s1 _ _ h))
  refine ⟨⟨vs, v, hq, h1⟩, fun x H' y => ?_⟩
  obtain ⟨rfl, y⟩ := y
  have := y vs hq
  rw [h1] at this
  cases this
  exact ⟨F, .refl s2, h2.mono s1⟩
theorem itt_ok {K : PySem.W.Frag} {F1 : Hp} {a : Addr} {vs : List V} {xs : List D} (h : F1 a = some (.tup vs)) (r : RepL K F1 vs xs) : ItOk K F1 (Itt K a) xs := by
  refine ⟨fun F H i d s1 s2 e => ?_, fun F H s1 s2 => ⟨vs, .of (s2 _ _ (s1 _ _ h)), by rw [r.length]; exact Nat.le_refl _⟩⟩
  obtain ⟨v, h1, h2⟩ := r.get e
  have hq : SqT K H a vs := .of (s2 _ _ (s1 _ _ h))
  refine ⟨⟨vs, v, hq, h1⟩, fun x H' y => ?_⟩
  obtain ⟨rfl, y⟩ := y
  have := y vs hq
  rw [h1] at this
  cases this
  exact ⟨F, .refl s2, h2.mono s1⟩
/-- a list, a tuple -/
theorem i_seq (ha : PE X e (rdE X.K ma)) : PI X tg e (rdI X.K (mItems ma)) :=
  PI_wk (PI_or (pi_list ha) (pi_tup ha)) fun σ H R ⟨H0, F, Γ, xs, R0, z, q⟩ => by
    obtain ⟨d, e1, z⟩ := Option.bind_eq_some_iff.mp z
    unfold itemsD at z
    split at z
    · cases z
      refine .inr ⟨H0, F, Γ, _, R0, e1, fun v H' F' E r => ?_⟩
      obtain ⟨a, vs, rfl, h1, r1⟩ := r.tupI
      exact ⟨a, rfl, ⟨vs, .of (E.fh _ _ h1)⟩, q _ H' F' E (itt_ok h1 r1)⟩
    · cases z
      refine .inl ⟨H0, F, Γ, _, R0, e1, fun v H' F' E r => ?_⟩
      obtain ⟨a, vs, rfl, h1, r1⟩ := r.lstI
      exact ⟨a, rfl, ⟨vs, .of (E.fh _ _ h1)⟩, q _ H' F' E (itl_ok h1 r1)⟩
    · cases z
theorem rngD_get {lo hi : Int} {i : Nat} {d : D} (e : (rngD lo hi)[i]? = some d) : i < (hi - lo).toNat ∧ d = .int (lo + i) := by
  unfold rngD at e
  rw [List.getElem?_map] at e
  obtain ⟨j, e1, rfl⟩ := Option.map_eq_some_iff.mp e
  obtain ⟨h1, h2⟩ := List.getElem?_eq_some_iff.mp e1
  rw [List.length_range] at h1
  rw [List.getElem_range] at h2
  exact ⟨h1, by rw [← h2]⟩
theorem rngD_len (lo hi : Int) : (rngD lo hi).length = (hi - lo).toNat := by unfold rngD; rw [List.length_map, List.length_range]
theorem itr_ok {K : PySem.W.Frag} {F1 : Hp} {lo hi : Int} : ItOk K F1 (Itr lo (hi - lo).toNat) (rngD lo hi) := by
  refine ⟨fun F H i d s1 s2 e => ?_, fun F H s1 s2 => by rw [rngD_len]; exact Nat.le_refl _⟩
  obtain ⟨h1, rfl⟩ := rngD_get e
  refine ⟨h1, fun x H' y => ?_⟩
  obtain ⟨rfl, rfl⟩ := y
  exact ⟨F, .refl s2, .int _⟩
def mRng1 (a : ME) : ML := fun Γ => ((a Γ).bind dI).bind fun n => if okR 0 n then some (rngD 0 n) else none
def mRng2 (a b : ME) : ML := fun Γ => ((a Γ).bind dI).bind fun i => ((b Γ).bind dI).bind fun j => if okR i j then some (rngD i j) else none
theorem ite_someL {α : Type} {c : Bool} {a b : α} (h : (if c then some a else none) = some b) : c = true ∧ b = a := by
  cases c
  · cases h
  · exact ⟨rfl, (Option.some.inj h).symm⟩
theorem i_rng1 (hg : Gl X "range") (hm : X.mg "range" = none) (ha : PE X a (rdB X.K ma)) (na : starEach [a] X.env = (false, eval a X.env) :: starEach [] X.env := by rfl) : PI X tg (.Call (.Name "range" p) [a] [] pos) (rdI X.K (mRng1 ma)) :=
  PI_wk (pi_range1 hg hm (r_bcons ha r_bnil na) na) fun σ H R ⟨H0, F, Γ, xs, R0, z, q⟩ => by
    obtain ⟨n, e1, z⟩ := Option.bind_eq_some_iff.mp z
    obtain ⟨d, e2, e3⟩ := Option.bind_eq_some_iff.mp e1
    rw [dI_some e3] at e2
    obtain ⟨c, rfl⟩ := ite_someL z
    obtain ⟨c1, c2, c3, c4⟩ := okR_bounds c
    refine ⟨H0, F, Γ, [.int n], R0, by simp only [mCons, mNil, e2, Option.bind_some], fun vs H' F' E r => ?_⟩
    obtain ⟨v, rfl, rr⟩ := bl1 r
    refine ⟨n, by rw [rr.int], by rw [big62]; omega, by rw [big62]; omega, ?_⟩
    have := q (Itr 0 (n - 0).toNat) H' F' E itr_ok
    rw [Int.sub_zero] at this
    exact this
theorem i_rng2 (hg : Gl X "range") (hm : X.mg "range" = none) (ha : PE X a (rdB X.K ma)) (hb : PE X b (rdB X.K mb)) (na : starEach [a, b] X.env = (false, eval a X.env) :: starEach [b] X.env := by rfl) (nb : starEach [b] X.env = (false, eval b X.env) :: starEach [] X.env := by rfl) :
    PI X tg (.Call (.Name "range" p) [a, b] [] pos) (rdI X.K (mRng2 ma mb)) :=
  PI_wk (pi_range2 hg hm (r_bcons ha (r_bcons hb r_bnil nb) na) (by rw [na, nb]; rfl) nb) fun σ H R ⟨H0, F, Γ, xs, R0, z, q⟩ => by
    obtain ⟨i, e1, z⟩ := Option.bind_eq_some_iff.mp z
    obtain ⟨d, e2, e3⟩ := Option.bind_eq_some_iff.mp e1
    rw [dI_some e3] at e2
    obtain ⟨j, e4, z⟩ := Option.bind_eq_some_iff.mp z
    obtain ⟨d', e5, e6⟩ := Option.bind_eq_some_iff.mp e4
    rw [dI_some e6] at e5
    obtain ⟨c, rfl⟩ := ite_someL z
    obtain ⟨c1, c2, c3, c4⟩ := okR_bounds c
    refine ⟨H0, F, Γ, [.int i, .int j], R0, by simp only [mCons, mNil, e2, e5, Option.bind_some], fun vs H' F' E r => ?_⟩
    obtain ⟨v, w, rfl, r1, r2⟩ := bl2 r
    exact ⟨i, j, by rw [r1.int, r2.int], ⟨by rw [big62]; omega, by rw [big62]; omega, by rw [big62]; omega, by rw [big62]; omega⟩, q _ H' F' E itr_ok⟩
end

/-! ### targets -/
abbrev MG := D → En → Option En
abbrev MGs := List D → En → Option En
/-- the slots but those at ws are as they were -/
def Off (ws : List Nat) (σ σ' : L2.St) : Prop := σ'.length = σ.length ∧ ∀ i : Nat, i ∉ ws → σ'[i]? = σ[i]?
theorem Off.trans {ws vs : List Nat} {σ σ' σ2 : L2.St} (a : Off ws σ σ') (b : Off vs σ' σ2) : Off (ws ++ vs) σ σ2 :=
  ⟨b.1.trans a.1, fun i h => (b.2 i fun z => h (List.mem_append.mpr (.inr z))).trans (a.2 i fun z => h (List.mem_append.mpr (.inl z)))⟩
/-- what slots have as their own is what they had -/
def OwnK (Γ Γ' : En) (σ σ' : L2.St) : Prop := ∀ (j : Nat) (e : D), Γ'[j]? = some (.own e) → Γ[j]? = some (.own e) ∧ σ'[j]? = σ[j]?
theorem OwnK.trans {Γ Γ' Γ2 : En} {σ σ' σ2 : L2.St} (a : OwnK Γ Γ' σ σ') (b : OwnK Γ' Γ2 σ' σ2) : OwnK Γ Γ2 σ σ2 := fun j e h =>
  ⟨(a j e (b j e h).1).1, (b j e h).2.trans (a j e (b j e h).1).2⟩
def rdG (K : PySem.W.Frag) (ws : List Nat) (g : MG) : TG := fun v σ H Q => ∃ H0 F Γ d Γ', Rel K H0 F H σ Γ ∧ Rep K F v d ∧ g d Γ = some Γ' ∧ ∀ σ', Rel K H0 F H σ' Γ' → Off ws σ σ' → OwnK Γ Γ' σ σ' → Q σ' H
def rdGs (K : PySem.W.Frag) (ws : List Nat) (g : MGs) : TGs := fun vs σ H Q => ∃ H0 F Γ ds Γ', Rel K H0 F H σ Γ ∧ RepL K F vs ds ∧ g ds Γ = some Γ' ∧ ∀ σ', Rel K H0 F H σ' Γ' → Off ws σ σ' → OwnK Γ Γ' σ σ' → Q σ' H
def gN (i : Nat) : MG := fun d Γ => some (Γ.set i (.val d))
def gsN : MGs := fun ds Γ => match ds with
  | [] => some Γ
  | _ => none
def gsC (g : MG) (r : MGs) : MGs := fun ds Γ => match ds with
  | d :: ds => (g d Γ).bind fun Γ' => r ds Γ'
  | [] => none
def gT (r : MGs) : MG := fun d Γ => match d with
  | .tup ds => r ds Γ
  | _ => none
def gL (r : MGs) : MG := fun d Γ => match d with
  | .lst ds => r ds Γ
  | _ => none
/-- how many targets -/
inductive GLen : MGs → Nat → Prop
  | nil : GLen gsN 0
  | cons {g : MG} {r : MGs} {n : Nat} : GLen r n → GLen (gsC g r) (n + 1)
theorem GLen.eq : ∀ {r : MGs} {n : Nat}, GLen r n → ∀ {ds : List D} {Γ Γ' : En}, r ds Γ = some Γ' → ds.length = n
  | _, _, .nil, ds, Γ, Γ', e => by
    cases ds with
    | nil => rfl
    | cons => cases e
  | _, _, .cons h, ds, Γ, Γ', e => by
    cases ds with
    | nil => cases e
    | cons d ds =>
      obtain ⟨Γ1, _, e⟩ := Option.bind_eq_some_iff.mp e
      rw [List.length_cons, h.eq e]
section
variable {X : Cx} {x : Str} {pos : Pos} {e : Expr} {es : List Expr} {g : MG} {gs : MGs}
theorem PG_wk {t t' : TG} (h : PG X e t) (w : ∀ v σ H Q, t' v σ H Q → t v σ H Q) : PG X e t' := ⟨fun pins s σ H v u Q I r q => h.run pins s σ H v u Q I r (w _ _ _ _ q)⟩
theorem PGs_wk {t t' : TGs} (h : PGs X es t) (w : ∀ v σ H Q, t' v σ H Q → t v σ H Q) : PGs X es t' := ⟨fun pins s σ H v u Q I r q => h.run pins s σ H v u Q I r (w _ _ _ _ q)⟩
theorem g_n (i : Nat) (hN : X.N.Nodup) (hi : X.N[i]? = some x := by rfl) (hx : Loc X.env.scope x := by first | exact Or.inl rfl | exact Or.inr rfl) (hf : X.fn x = true ∨ X.env.scope.names.lookup x = some .local := by first | exact .inl rfl | exact .inr rfl | assumption) : PG X (.Name x pos) (rdG X.K [i] (gN i)) :=
  PG_wk (pg_name hN hi hx hf) fun v σ H Q ⟨H0, F, Γ, d, Γ', R, r, z, q⟩ => by
    cases z
    exact q _ (R.setVal i r) ⟨List.length_set, fun j h => get_set_ne fun z => h (by rw [z]; exact List.mem_singleton.mpr rfl)⟩ (fun j e h => by
      rcases set_get h with ⟨_, h, _⟩ | ⟨n, h⟩
      · cases h
      · exact ⟨h, get_set_ne n⟩)
theorem gs_n : PGs X [] (rdGs X.K [] gsN) := PGs_wk pgs_nil fun v σ H Q ⟨H0, F, Γ, ds, Γ', R, r, z, q⟩ => by
  unfold gsN at z
  split at z
  · cases z; cases r; exact ⟨rfl, q _ R ⟨rfl, fun _ _ => rfl⟩ fun _ _ h => ⟨h, rfl⟩⟩
  · cases z
theorem gs_c {ws vs : List Nat} (h1 : PG X e (rdG X.K ws g)) (h2 : PGs X es (rdGs X.K vs gs)) (hs : (assignEach (e :: es) X.env).map (·.2) = assign e X.env :: (assignEach es X.env).map (·.2) := by rfl) : PGs X (e :: es) (rdGs X.K (ws ++ vs) (gsC g gs)) :=
  PGs_wk (pgs_cons h1 h2 hs) fun v σ H Q ⟨H0, F, Γ, ds, Γ', R, r, z, q⟩ => by
    unfold gsC at z
    split at z
    · obtain ⟨Γ1, e1, z⟩ := Option.bind_eq_some_iff.mp z
      cases r with
      | cons h r => exact ⟨_, _, rfl, H0, F, Γ, _, Γ1, R, h, e1, fun σ' R' o1 k1 => ⟨H0, F, Γ1, _, Γ', R', r, z, fun σ'' R'' o2 k2 => q σ'' R'' (o1.trans o2) (k1.trans k2)⟩⟩
    · cases z
theorem g_t {k n : Nat} {ws : List Nat} (hc : X.calm = true) (h : PGs X es (rdGs X.K ws gs)) (hl : GLen gs n := by repeat' constructor) (hn : (assignEach es X.env).length = n := by rfl) (hst : (assignEach es X.env).findIdx? (·.1) = none := by rfl) : PG X (.Tuple es k pos) (rdG X.K ws (gT gs)) :=
  PG_wk (pg_tup hc h hn hst) fun v σ H Q ⟨H0, F, Γ, d, Γ', R, r, z, q⟩ => by
    unfold gT at z
    split at z
    · obtain ⟨a, vs, rfl, h1, r1⟩ := r.tupI
      exact ⟨a, vs, rfl, .of (R.fh _ _ h1), by rw [r1.length]; exact hl.eq z, H0, F, Γ, _, Γ', R, r1, z, q⟩
    · cases z
theorem g_l {k n : Nat} {ws : List Nat} (hc : X.calm = true) (h : PGs X es (rdGs X.K ws gs)) (hl : GLen gs n := by repeat' constructor) (hn : (assignEach es X.env).length = n := by rfl) (hst : (assignEach es X.env).findIdx? (·.1) = none := by rfl) : PG X (.Tuple es k pos) (rdG X.K ws (gL gs)) :=
  PG_wk (pg_unl hc h hn hst) fun v σ H Q ⟨H0, F, Γ, d, Γ', R, r, z, q⟩ => by
    unfold gL at z
    split at z
    · obtain ⟨a, vs, rfl, h1, r1⟩ := r.lstI
      exact ⟨a, vs, rfl, .of (R.fh _ _ h1), by rw [r1.length]; exact hl.eq z, H0, F, Γ, _, Γ', R, r1, z, q⟩
    · cases z
end

/-! ### statements -/
inductive Fl where
  | nx | bk | ct | rt (d : D)
abbrev MS := En → Option (Fl × En)
def Fin (K : PySem.W.Frag) (D0 : Ends) (σ : L2.St) (H F : Hp) : Fl → Prop
  | .nx => D0.nx σ H
  | .bk => D0.bk σ H
  | .ct => D0.ct σ H
  | .rt d => ∀ v F' H', Ext F H F' H' → Rep K F' v d → D0.rt v H'
/-- F grows, by what is new since the entry -/
def Grow (H0 F F' : Hp) : Prop := Same F F' ∧ ∀ b o, F' b = some o → F b = none → H0 b = none
theorem Grow.refl {H0 F : Hp} : Grow H0 F F := ⟨.refl _, fun b o e n => (by rw [n] at e; cases e)⟩
theorem Grow.trans {H0 F F' F2 : Hp} (a : Grow H0 F F') (b : Grow H0 F' F2) : Grow H0 F F2 := by
  refine ⟨a.1.trans b.1, fun c o e n => ?_⟩
  cases q : F' c with
  | none => exact b.2 c o e q
  | some u => exact a.2 c u q n
theorem Grow.ext {H0 F H F' H' : Hp} (s : Same H0 H) (E : Ext F H F' H') : Grow H0 F F' := ⟨E.f, fun b o e n => s.free (E.new b o e n)⟩
def rdS (K : PySem.W.Frag) (H0 : Hp) (m : MS) : TS := fun D0 σ H => ∃ F Γ fl Γ', Rel K H0 F H σ Γ ∧ m Γ = some (fl, Γ') ∧ ∀ σ' H' F', Grow H0 F F' → Rel K H0 F' H' σ' Γ' → Fin K D0 σ' H' F' fl
def sNx : MS := fun Γ => some (.nx, Γ)
def sBk : MS := fun Γ => some (.bk, Γ)
def sCt : MS := fun Γ => some (.ct, Γ)
def sSq (a b : MS) : MS := fun Γ => match a Γ with
  | some (.nx, Γ') => b Γ'
  | r => r
def sRt (m : ME) : MS := fun Γ => (m Γ).map fun d => (.rt d, Γ)
def sIf (c : MT) (a b : MS) : MS := fun Γ => (c Γ).bind fun t => if t then a Γ else b Γ
def sSet (i : Nat) (m : MX) : MS := fun Γ => (m Γ).map fun s => (.nx, Γ.set i s)
def sTg (g : MG) (m : ME) : MS := fun Γ => (m Γ).bind fun d => (g d Γ).map fun Γ' => (.nx, Γ')
def sPar (i j : Nat) (a b : MX) : MS := fun Γ => (a Γ).bind fun s => (b Γ).map fun t => (.nx, (Γ.set i s).set j t)
def sFrz (i : Nat) (a : MS) : MS := fun Γ => a (frz1 i Γ)
def sDrop (m : ME) : MS := fun Γ => (m Γ).map fun _ => (.nx, Γ)
section
variable {X : Cx} {H0 : Hp} {st : Stmt} {rest body other : List Stmt} {e c a b : Expr} {pos : Pos} {m n : MS} {me : ME} {mt : MT} {mx my : MX} {g : MG}
theorem PS_wk {t t' : TS} (h : PS X st t) (w : ∀ D0 σ H, t' D0 σ H → t D0 σ H) : PS X st t' := ⟨fun pins s σ H D0 I q => h.run pins s σ H D0 I (w _ _ _ q)⟩
theorem PSs_wk {t t' : TS} (h : PSs X rest t) (w : ∀ D0 σ H, t' D0 σ H → t D0 σ H) : PSs X rest t' := ⟨fun pins s σ H D0 I q => h.run pins s σ H D0 I (w _ _ _ q)⟩
theorem s_nil : PSs X [] (rdS X.K H0 sNx) := PSs_wk pss_nil fun D0 σ H ⟨F, Γ, fl, Γ', R, z, q⟩ => by cases z; exact q σ H F .refl R
theorem s_one (h : PS X st (rdS X.K H0 m)) : PSs X [st] (rdS X.K H0 m) := pss_one h
theorem s_cons (h1 : PS X st (rdS X.K H0 m)) (h2 : PSs X rest (rdS X.K H0 n)) : PSs X (st :: rest) (rdS X.K H0 (sSq m n)) :=
  PSs_wk (pss_cons h1 h2) fun D0 σ H ⟨F, Γ, fl, Γ', R, z, q⟩ => by
    unfold sSq at z
    split at z
    · rename_i Γ1 e1
      exact ⟨F, Γ, .nx, Γ1, R, e1, fun σ1 H1 F1 G1 R1 => ⟨F1, Γ1, fl, Γ', R1, z, fun σ2 H2 F2 G2 R2 => q σ2 H2 F2 (G1.trans G2) R2⟩⟩
    · rename_i hn
      refine ⟨F, Γ, fl, Γ', R, z, fun σ1 H1 F1 G1 R1 => ?_⟩
      cases fl with
      | nx => exact (hn _ z).elim
      | bk => exact q σ1 H1 F1 G1 R1
      | ct => exact q σ1 H1 F1 G1 R1
      | rt d => exact q σ1 H1 F1 G1 R1
theorem s_pass : PS X (.Pass pos) (rdS X.K H0 sNx) := PS_wk ps_pass fun D0 σ H ⟨F, Γ, fl, Γ', R, z, q⟩ => by cases z; exact q σ H F .refl R
theorem s_break : PS X (.Break pos) (rdS X.K H0 sBk) := PS_wk ps_break fun D0 σ H ⟨F, Γ, fl, Γ', R, z, q⟩ => by cases z; exact q σ H F .refl R
theorem s_cont : PS X (.Continue pos) (rdS X.K H0 sCt) := PS_wk ps_continue fun D0 σ H ⟨F, Γ, fl, Γ', R, z, q⟩ => by cases z; exact q σ H F .refl R
theorem s_ret (he : PE X e (rdE X.K me)) : PS X (.Return (some e) pos) (rdS X.K H0 (sRt me)) :=
  PS_wk (ps_ret he) fun D0 σ H ⟨F, Γ, fl, Γ', R, z, q⟩ => by
    obtain ⟨d, e1, z⟩ := Option.map_eq_some_iff.mp z
    cases z
    exact ⟨H0, F, Γ, d, R, e1, fun v H' F' E r => q σ H F .refl R v F' H' E r⟩
theorem s_retN : PS X (.Return none pos) (rdS X.K H0 (sRt (mC .non))) :=
  PS_wk ps_retN fun D0 σ H ⟨F, Γ, fl, Γ', R, z, q⟩ => by
    cases z
    exact q σ H F .refl R .non F H (.refl R.fh) .non
theorem s_if (hc : PT X c (rdT X.K mt)) (ha : PSs X body (rdS X.K H0 m)) (hb : PSs X other (rdS X.K H0 n)) : PS X (.If c body other pos) (rdS X.K H0 (sIf mt m n)) :=
  PS_wk (ps_if hc ha hb) fun D0 σ H ⟨F, Γ, fl, Γ', R, z, q⟩ => by
    obtain ⟨t, e1, z⟩ := Option.bind_eq_some_iff.mp z
    refine ⟨H0, F, Γ, t, R, e1, fun H1 F1 E1 => ?_⟩
    have G := Grow.ext R.h0 E1
    cases t with
    | true => exact iteT ⟨F1, Γ, fl, Γ', R.ext E1, z, fun σ2 H2 F2 G2 R2 => q σ2 H2 F2 (G.trans G2) R2⟩
    | false => exact iteF ⟨F1, Γ, fl, Γ', R.ext E1, z, fun σ2 H2 F2 G2 R2 => q σ2 H2 F2 (G.trans G2) R2⟩
theorem asgX {σ H} {D0 : Ends} {i : Nat} (h : rdS X.K H0 (sSet i mx) D0 σ H) : tAsg (rdX X.K mx) (gName i) D0 σ H := by
  obtain ⟨F, Γ, fl, Γ', R, z, q⟩ := h
  obtain ⟨s, e1, z⟩ := Option.map_eq_some_iff.mp z
  cases z
  exact ⟨H0, F, Γ, s, R, e1, fun v H' F' E r => q _ H' F' (Grow.ext R.h0 E) (R.setX E r i)⟩
theorem s_set (i : Nat) {x : Str} {pos' : Pos} (hN : X.N.Nodup) (he : PE X e (rdX X.K mx)) (hi : X.N[i]? = some x := by rfl) (hx : Loc X.env.scope x := by first | exact Or.inl rfl | exact Or.inr rfl) (hs : swapsWith e (some (.Name x pos')) pos.line X.env = pure false := by rfl)
    (hf : X.fn x = true ∨ X.env.scope.names.lookup x = some .local := by first | exact .inl rfl | exact .inr rfl | assumption) : PS X (.Assign [.Name x pos'] e pos) (rdS X.K H0 (sSet i mx)) :=
  PS_wk (ps_set hN hi hx he hs hf) fun D0 σ H h => asgX h
/-- (a, b, ..) = e -/
theorem s_tg {tg : Expr} {ws : List Nat} (he : PE X e (rdE X.K me)) (hg : PG X tg (rdG X.K ws g)) (hs : swapsWithSole [tg] e pos.line X.env = pure false := by rfl) (hw : swappedStores [tg] e X.env = pure none := by rfl)
    (h1 : (assignEach [tg] X.env).map (·.2) = [assign tg X.env] := by rfl) : PS X (.Assign [tg] e pos) (rdS X.K H0 (sTg g me)) :=
  PS_wk (ps_asg he hg hs hw h1) fun D0 σ H ⟨F, Γ, fl, Γ', R, z, q⟩ => by
    obtain ⟨d, e1, z⟩ := Option.bind_eq_some_iff.mp z
    obtain ⟨Γ1, e2, z⟩ := Option.map_eq_some_iff.mp z
    cases z
    exact ⟨H0, F, Γ, d, R, e1, fun v H' F' E r => ⟨H0, F', Γ, d, _, R.ext E, r, e2, fun σ' R' _ _ => q σ' H' F' (Grow.ext R.h0 E) R'⟩⟩
/-- a, b = x, y: stored from the right -/
theorem s_par (i j : Nat) {x y : Str} {px py pt : Pos} {kt k2 pt2} (hc : X.calm = true) (hN : X.N.Nodup) (ha : PE X a (rdX X.K mx)) (hb : PE X b (rdX X.K my))
    (hw : swappedStores [.Tuple [.Name x px, .Name y py] kt pt] (.Tuple [a, b] k2 pt2) X.env = pure (some [x, y])) (hi : X.N[i]? = some x := by rfl) (hj : X.N[j]? = some y := by rfl) (hij : i ≠ j := by decide)
    (hx : X.env.scope.names.lookup x = some .local := by rfl) (hy : X.env.scope.names.lookup y = some .local := by rfl)
    (hs : swapsWithSole [.Tuple [.Name x px, .Name y py] kt pt] (.Tuple [a, b] k2 pt2) pos.line X.env = pure false := by rfl) (na : starEach [a, b] X.env = (false, eval a X.env) :: starEach [b] X.env := by rfl)
    (nb : starEach [b] X.env = (false, eval b X.env) :: starEach [] X.env := by rfl) : PS X (.Assign [.Tuple [.Name x px, .Name y py] kt pt] (.Tuple [a, b] k2 pt2) pos) (rdS X.K H0 (sPar i j mx my)) :=
  PS_wk (ps_par hc hN hi hj hij hx hy (pa_cons ha (pa_cons hb pa_nil nb) na) hw hs) fun D0 σ H ⟨F, Γ, fl, Γ', R, z, q⟩ => by
    obtain ⟨s, e1, z⟩ := Option.bind_eq_some_iff.mp z
    obtain ⟨t, e2, z⟩ := Option.map_eq_some_iff.mp z
    cases z
    refine ⟨H0, F, Γ, s, R, e1, fun v H1 F1 E1 r1 => ⟨H0, F1, Γ, t, R.ext E1, e2, fun w H2 F2 E2 r2 => ⟨v, w, rfl, ?_⟩⟩⟩
    exact q _ H2 F2 ((Grow.ext R.h0 E1).trans (Grow.ext (R.h0.trans E1.h) E2)) ((R.setX E1 r1 i).setX E2 r2 j)
theorem s_frz (i : Nat) (h : PS X st (rdS X.K H0 m)) : PS X st (rdS X.K H0 (sFrz i m)) :=
  PS_wk h fun D0 σ H ⟨F, Γ, fl, Γ', R, z, q⟩ => by
    obtain ⟨F1, s1, n1, R1⟩ := R.freeze i
    exact ⟨F1, frz1 i Γ, fl, Γ', R1, z, fun σ2 H2 F2 G2 R2 => q σ2 H2 F2 (Grow.trans ⟨s1, n1⟩ G2) R2⟩
theorem s_expr (he : PE X e (rdE X.K me)) (hs : swapsWith e none pos.line X.env = pure false := by rfl) : PS X (.Expr e pos) (rdS X.K H0 (sDrop me)) :=
  PS_wk (ps_expr he hs) fun D0 σ H ⟨F, Γ, fl, Γ', R, z, q⟩ => by
    obtain ⟨d, e1, z⟩ := Option.map_eq_some_iff.mp z
    cases z
    exact ⟨H0, F, Γ, d, R, e1, fun v H' F' E r => q σ H' F' (Grow.ext R.h0 E) (R.ext E)⟩
/-! name op= e -/
def sAug (i : Nat) (f : D → D → Option D) (m : ME) : MS := fun Γ => (mVar i Γ).bind fun x => (m Γ).bind fun y => (f x y).map fun z => (.nx, Γ.set i (.val z))
theorem s_aug (i : Nat) {x : Str} {op : Operator} {f : D → D → Option D} {r : R2} {pos' : Pos} (hN : X.N.Nodup) (ho : OpR X (inplaceOp op) r) (hf' : Op2 X.K f r) (he : PE X e (rdB X.K me)) (hi : X.N[i]? = some x := by rfl) (hx : Loc X.env.scope x := by first | exact Or.inl rfl | exact Or.inr rfl)
    (hf : X.fn x = true ∨ X.env.scope.names.lookup x = some .local := by first | exact .inl rfl | exact .inr rfl | assumption) : PS X (.AugAssign (.Name x pos') op e pos) (rdS X.K H0 (sAug i f me)) :=
  PS_wk (ps_aug hN hi hx he ho hf) fun D0 σ H ⟨F, Γ, fl, Γ', R, z, q⟩ => by
    obtain ⟨dx, e1, z⟩ := Option.bind_eq_some_iff.mp z
    obtain ⟨dy, e2, z⟩ := Option.bind_eq_some_iff.mp z
    obtain ⟨dz, e3, z⟩ := Option.map_eq_some_iff.mp z
    cases z
    unfold mVar at e1
    split at e1
    · rename_i d' hd
      cases e1
      obtain ⟨v, h1, h2⟩ := R.valAt hd
      refine ⟨v, h1, H0, F, Γ, dy, R, e2, fun w H1 F1 E1 r1 => hf' F1 H1 v w _ dy dz _ E1.fh (.inl (h2.mono E1.f)) r1 e3 fun u H' F' E2 r2 => ?_⟩
      exact q _ H' F' ((Grow.ext R.h0 E1).trans (Grow.ext (R.h0.trans E1.h) E2)) (((R.ext E1).ext E2).setVal i r2)
    · cases e1
end
end SK

set_option Elab.async false
set_option linter.all false
set_option maxRecDepth 100000
set_option maxHeartbeats 4000000
set_option autoImplicit false
namespace SK
open PySem PySem.Spec PyProof.Rows L2

/-! ### while, for -/
def mWh (c : MT) (b : MS) : Nat → MS
  | 0, _ => none
  | n + 1, Γ => (c Γ).bind fun t => if t then (match b Γ with
      | some (.nx, Γ1) => mWh c b n Γ1
      | some (.ct, Γ1) => mWh c b n Γ1
      | some (.bk, Γ1) => some (.nx, Γ1)
      | r => r) else some (.nx, Γ)
def mFor (g : MG) (b : MS) : List D → MS
  | [], Γ => some (.nx, Γ)
  | x :: xs, Γ => (g x Γ).bind fun Γ1 => match b Γ1 with
      | some (.nx, Γ2) => mFor g b xs Γ2
      | some (.ct, Γ2) => mFor g b xs Γ2
      | some (.bk, Γ2) => some (.nx, Γ2)
      | r => r
def sFor (ml : ML) (g : MG) (b : MS) : MS := fun Γ => (ml Γ).bind fun xs => mFor g b xs Γ
section
variable {X : Cx} {H0 : Hp} {body : List Stmt} {tg iter c : Expr} {pos : Pos} {m : MS} {mt : MT} {g : MG} {ml : ML} {ws : List Nat}
theorem s_while (N : Nat) (hp : PassesOwn (model X.prog X.w) X.A X.env X.xe) (hc : PT X c (rdT X.K mt)) (hb : PSs X body (rdS X.K H0 m)) : PS X (.While c body [] pos) (rdS X.K H0 (mWh mt m N)) :=
  PS_wk (ps_while hp hc hb) fun D0 σ H h => by
    refine ⟨fun k σ H => rdS X.K H0 (mWh mt m k) D0 σ H, ⟨N, h⟩, fun k σ H h => ?_⟩
    obtain ⟨F, Γ, fl, Γ', R, z, q⟩ := h
    cases k with
    | zero => cases z
    | succ k =>
      obtain ⟨t, e1, z⟩ := Option.bind_eq_some_iff.mp z
      refine ⟨H0, F, Γ, t, R, e1, fun H1 F1 E1 => ?_⟩
      have G := Grow.ext R.h0 E1
      cases t with
      | false =>
        cases z
        exact iteF (q σ H1 F1 G (R.ext E1))
      | true =>
        refine iteT ⟨fun σ H => rdS X.K H0 (mWh mt m k) D0 σ H, fun σ' H' h => ⟨k, Nat.lt_succ_self _, h⟩, ?_⟩
        have z' : (match m Γ with
      | some (.nx, Γ1) => mWh mt m k Γ1
      | some (.ct, Γ1) => mWh mt m k Γ1
      | some (.bk, Γ1) => some (.nx, Γ1)
      | r => r) = some (fl, Γ') := z
        split at z'
        · rename_i Γ1 e2
          exact ⟨F1, Γ, .nx, Γ1, R.ext E1, e2, fun σ2 H2 F2 G2 R2 => ⟨F2, Γ1, fl, Γ', R2, z', fun σ3 H3 F3 G3 R3 => q σ3 H3 F3 ((G.trans G2).trans G3) R3⟩⟩
        · rename_i Γ1 e2
          exact ⟨F1, Γ, .ct, Γ1, R.ext E1, e2, fun σ2 H2 F2 G2 R2 => ⟨F2, Γ1, fl, Γ', R2, z', fun σ3 H3 F3 G3 R3 => q σ3 H3 F3 ((G.trans G2).trans G3) R3⟩⟩
        · rename_i Γ1 e2
          cases z'
          exact ⟨F1, Γ, .bk, _, R.ext E1, e2, fun σ2 H2 F2 G2 R2 => q σ2 H2 F2 (G.trans G2) R2⟩
        · rename_i h1 h2 h3
          cases fl with
          | nx => exact (h1 _ z').elim
          | ct => exact (h2 _ z').elim
          | bk => exact (h3 _ z').elim
          | rt d => exact ⟨F1, Γ, .rt d, Γ', R.ext E1, z', fun σ2 H2 F2 G2 R2 => q σ2 H2 F2 (G.trans G2) R2⟩
theorem s_for (hp : PassesOwn (model X.prog X.w) X.A X.env X.xe) (hc : X.calm = true) (hi : PI X tg iter (rdI X.K ml)) (hg : PG X tg (rdG X.K ws g)) (hb : PSs X body (rdS X.K H0 m))
    (hs : ∀ x, foldedSetIterable iter X.env x = pure x := by intro _; rfl) : PS X (.For tg iter body [] pos) (rdS X.K H0 (sFor ml g m)) :=
  PS_wk (ps_for hp hc hi hg hb hs) fun D0 σ H ⟨F, Γ, fl, Γ', R, z, q⟩ => by
    obtain ⟨xs, e1, z⟩ := Option.bind_eq_some_iff.mp z
    refine ⟨H0, F, Γ, xs, R, e1, fun J H1 F1 E1 ok => ?_⟩
    refine ⟨fun i k σ H => i + k = xs.length ∧ ∃ F2 Γ2, Same F1 F2 ∧ Rel X.K H0 F2 H σ Γ2 ∧ mFor g m (xs.drop i) Γ2 = some (fl, Γ') ∧ (∀ σ' H' F', Grow H0 F2 F' → Rel X.K H0 F' H' σ' Γ' → Fin X.K D0 σ' H' F' fl),
      ⟨xs.length, by omega, F1, Γ, .refl _, R.ext E1, by rw [List.drop_zero]; exact z, fun σ' H' F' G R' => q σ' H' F' ((Grow.ext R.h0 E1).trans G) R'⟩, fun i k σ H h => ?_⟩
    obtain ⟨hk, F2, Γ2, sF, R2, z2, q2⟩ := h
    by_cases hi : i < xs.length
    · rw [List.drop_eq_getElem_cons hi] at z2
      obtain ⟨Γ3, e3, z2⟩ := Option.bind_eq_some_iff.mp z2
      obtain ⟨gg, yy⟩ := ok.go F2 H i xs[i] sF R2.fh (List.getElem?_eq_getElem hi)
      refine .inr ⟨gg, ?_⟩
      refine ⟨fun σ H => ∃ k', k' < k ∧ (i + 1) + k' = xs.length ∧ ∃ F2 Γ2, Same F1 F2 ∧ Rel X.K H0 F2 H σ Γ2 ∧ mFor g m (xs.drop (i + 1)) Γ2 = some (fl, Γ') ∧ (∀ σ' H' F', Grow H0 F2 F' → Rel X.K H0 F' H' σ' Γ' → Fin X.K D0 σ' H' F' fl),
        fun σ' H' ⟨k', h1, h2, h3⟩ => ⟨k', h1, h2, h3⟩, fun x H' y => ?_⟩
      obtain ⟨F4, E4, r4⟩ := yy x H' y
      refine ⟨H0, F4, Γ2, xs[i], Γ3, R2.ext E4, r4, e3, fun σ5 R5 _ _ => ?_⟩
      have G4 := Grow.ext R2.h0 E4
      have z' : (match m Γ3 with
      | some (.nx, Γ2) => mFor g m (xs.drop (i + 1)) Γ2
      | some (.ct, Γ2) => mFor g m (xs.drop (i + 1)) Γ2
      | some (.bk, Γ2) => some (.nx, Γ2)
      | r => r) = some (fl, Γ') := z2
      split at z'
      · rename_i Γ6 e6
        exact ⟨F4, Γ3, .nx, Γ6, R5, e6, fun σ7 H7 F7 G7 R7 => ⟨k - 1, by omega, by omega, F7, Γ6, (sF.trans G4.1).trans G7.1, R7, z', fun σ' H' F' G R' => q2 σ' H' F' ((G4.trans G7).trans G) R'⟩⟩
      · rename_i Γ6 e6
        exact ⟨F4, Γ3, .ct, Γ6, R5, e6, fun σ7 H7 F7 G7 R7 => ⟨k - 1, by omega, by omega, F7, Γ6, (sF.trans G4.1).trans G7.1, R7, z', fun σ' H' F' G R' => q2 σ' H' F' ((G4.trans G7).trans G) R'⟩⟩
      · rename_i Γ6 e6
        cases z'
        exact ⟨F4, Γ3, .bk, _, R5, e6, fun σ7 H7 F7 G7 R7 => q2 σ7 H7 F7 (G4.trans G7) R7⟩
      · rename_i h1 h2 h3
        cases fl with
        | nx => exact (h1 _ z').elim
        | ct => exact (h2 _ z').elim
        | bk => exact (h3 _ z').elim
        | rt d => exact ⟨F4, Γ3, .rt d, Γ', R5, z', fun σ7 H7 F7 G7 R7 => q2 σ7 H7 F7 (G4.trans G7) R7⟩
    · have hl : i = xs.length := by omega
      subst hl
      rw [List.drop_length] at z2
      cases z2
      exact .inl ⟨ok.stop F2 H sF R2.fh, q2 σ H F2 .refl R2⟩
end

/-! ### a list of one's own is changed -/
def ownL (i : Nat) (Γ : En) : Option (List D) := match Γ[i]? with
  | some (.own (.lst xs)) => some xs
  | _ => none
theorem ownL_at {i : Nat} {Γ : En} {xs : List D} (h : ownL i Γ = some xs) : Γ[i]? = some (.own (.lst xs)) := by
  unfold ownL at h
  split at h
  · rename_i e
    cases h
    exact e
  · cases h
def sApp (i : Nat) (m : ME) : MS := fun Γ => (ownL i Γ).bind fun xs => (m Γ).bind fun d => if xs.length < LIM then some (.nx, Γ.set i (.own (.lst (xs ++ [d])))) else none
def lstOf : D → Option (List D)
  | .lst xs => some xs
  | _ => none
def sExt (i : Nat) (m : ME) : MS := fun Γ => (ownL i Γ).bind fun xs => ((m Γ).bind lstOf).bind fun ys => if xs.length + ys.length ≤ LIM then some (.nx, Γ.set i (.own (.lst (xs ++ ys)))) else none
def sSetIx (i : Nat) (k m : ME) : MS := fun Γ => (ownL i Γ).bind fun xs => (m Γ).bind fun d => ((k Γ).bind dI).bind fun n => (ixN xs.length n).map fun j => (.nx, Γ.set i (.own (.lst (xs.set j d))))
def sAugIx (i : Nat) (k : ME) (f : D → D → Option D) (m : ME) : MS := fun Γ => (ownL i Γ).bind fun xs => ((k Γ).bind dI).bind fun n => (ixN xs.length n).bind fun j => (xs[j]?).bind fun x => (m Γ).bind fun y => (f x y).map fun z => (.nx, Γ.set i (.own (.lst (xs.set j z))))
theorem if_someP {α : Type} {c : Prop} [Decidable c] {a b : α} (h : (if c then some a else none) = some b) : c ∧ b = a := by
  by_cases hc : c
  · rw [if_pos hc] at h; exact ⟨hc, (Option.some.inj h).symm⟩
  · rw [if_neg hc] at h; cases h
theorem Rel.lstAt {K : PySem.W.Frag} {H0 F H : Hp} {σ : L2.St} {Γ : En} (R : Rel K H0 F H σ Γ) {i : Nat} {xs : List D} (h : ownL i Γ = some xs) : ∃ a vs, Γ[i]? = some (.own (.lst xs)) ∧ σ[i]? = some (some (.ref a)) ∧ H a = some (.lst vs) ∧ F a = none ∧ RepL K F vs xs := by
  have hi := ownL_at h
  obtain ⟨_, a, ob, h1, h2, h3, h4, h5⟩ := R.ownAt hi
  cases h5 with
  | lst r => exact ⟨a, _, hi, h1, h4, h2, r⟩
section
variable {X : Cx} {H0 : Hp} {e k : Expr} {x : Str} {p apos cpos pos : Pos} {me mk : ME}
/-- st: xs.append(e); h: ps_expr (pe_bm .. mt_append (pv i) (pa_cons he pa_nil)) -/
theorem s_app {st : Stmt} {i : Nat} (h : PS X st (tDrop (tBM X.K "list" rAppend (tVar i) (tCons (rdE X.K me) tNil)))) : PS X st (rdS X.K H0 (sApp i me)) :=
  PS_wk h fun D0 σ H ⟨F, Γ, fl, Γ', R, z, q⟩ => by
    obtain ⟨xs, e1, z⟩ := Option.bind_eq_some_iff.mp z
    obtain ⟨d, e2, z⟩ := Option.bind_eq_some_iff.mp z
    obtain ⟨c, z⟩ := if_someP z
    cases z
    obtain ⟨a, vs, hi, h1, h2, h3, r⟩ := R.lstAt e1
    refine ⟨.ref a, h1, .inl ⟨rfl, vs, .of h2⟩, H0, F, Γ, d, R, e2, fun v H1 F1 E1 rv => ?_⟩
    refine ⟨a, vs, v, rfl, rfl, E1.h _ _ h2, by rw [r.length, ← lim_line]; exact c, ?_⟩
    exact q σ _ F1 (Grow.ext R.h0 E1) ((R.ext E1).updOwn hi h1 rfl (.lst ((r.mono E1.f).append (.cons rv .nil))))
theorem s_ext {st : Stmt} {i : Nat} (h : PS X st (tDrop (tBM X.K "list" rExtend (tVar i) (tCons (rdB X.K me) tNil)))) : PS X st (rdS X.K H0 (sExt i me)) :=
  PS_wk h fun D0 σ H ⟨F, Γ, fl, Γ', R, z, q⟩ => by
    obtain ⟨xs, e1, z⟩ := Option.bind_eq_some_iff.mp z
    obtain ⟨ys, e3, z⟩ := Option.bind_eq_some_iff.mp z
    obtain ⟨d, e2, e4⟩ := Option.bind_eq_some_iff.mp e3
    obtain ⟨c, z⟩ := if_someP z
    cases z
    obtain ⟨a, vs, hi, h1, h2, h3, r⟩ := R.lstAt e1
    refine ⟨.ref a, h1, .inl ⟨rfl, vs, .of h2⟩, H0, F, Γ, d, R, e2, fun v H1 F1 E1 rv => ?_⟩
    unfold lstOf at e4
    split at e4
    · cases e4
      obtain ⟨b, ws, rfl, g1, g2⟩ := rv.lst E1.fh
      refine ⟨a, b, vs, ws, rfl, rfl, E1.h _ _ h2, g1, by rw [r.length, g2.length, ← lim_line]; exact c, ?_⟩
      have r2 := (r.mono E1.f).append g2
      exact q σ _ F1 (Grow.ext R.h0 E1) ((R.ext E1).updOwn hi h1 rfl (.lst r2))
    · cases e4
/-- xs[k] = e; h: ps_asg he (pg_sub (pv i) hk set_list) -/
theorem s_setIx {st : Stmt} {i : Nat} (h : PS X st (tAsg (rdE X.K me) (gSub (tVar i) (rdB X.K mk) rSetL))) : PS X st (rdS X.K H0 (sSetIx i mk me)) :=
  PS_wk h fun D0 σ H ⟨F, Γ, fl, Γ', R, z, q⟩ => by
    obtain ⟨xs, e1, z⟩ := Option.bind_eq_some_iff.mp z
    obtain ⟨d, e2, z⟩ := Option.bind_eq_some_iff.mp z
    obtain ⟨n, e3, z⟩ := Option.bind_eq_some_iff.mp z
    obtain ⟨dk, e4, e6⟩ := Option.bind_eq_some_iff.mp e3
    rw [dI_some e6] at e4
    obtain ⟨j, e5, z⟩ := Option.map_eq_some_iff.mp z
    cases z
    obtain ⟨a, vs, hi, h1, h2, h3, r⟩ := R.lstAt e1
    refine ⟨H0, F, Γ, d, R, e2, fun v H1 F1 E1 rv => ⟨.ref a, h1, H0, F1, Γ, .int n, R.ext E1, e4, fun w H2 F2 E2 rw' => ?_⟩⟩
    have E := E1.trans E2
    refine ⟨a, vs, n, j, rfl, rw'.int, E.h _ _ h2, by rw [r.length]; exact e5, ?_⟩
    have r2 := (r.mono E.f).set j (rv.mono E2.f)
    exact q σ _ F2 (Grow.ext R.h0 E) ((R.ext E).updOwn hi h1 rfl (.lst r2))
def rGetL (K : PySem.W.Frag) : V → V → Hp → VK → Prop := fun x y H Q => ∃ p xs i v, x = .ref p ∧ y = .int i ∧ SqL K H p xs ∧ atI xs i = some v ∧ Q v H
theorem get_list : PGet X (rGetL X.K) := by
  intro pins s σ H x y v u Q I rx ry h
  obtain ⟨p, xs, i, z, rfl, rfl, hq, he, q⟩ := h
  cases rx
  obtain ⟨t, rfl⟩ := ry
  obtain ⟨its, r, pl, hz⟩ := I.list hq
  obtain ⟨j, h1, h2, h3, h4, h5⟩ := atI_get he
  obtain ⟨w, ew, rw'⟩ := r.get h2
  have hl := r.length
  have hn := line63
  by_cases h0 : 0 ≤ i
  · have hj : i.toNat = j := by
      rw [seqIndex_of h0 h5] at h1
      exact Option.some.inj h1
    exact wpAny_getItem_list pl.isList h0 (by omega) (by rw [hj]; simpa using ew) ⟨z, H, I, rw', q⟩
  · have hj : (i + (its.toArray.size : Int)).toNat = j := by
      rw [seqIndex_neg (by omega) h4] at h1
      rw [List.size_toArray, ← hl]
      exact Option.some.inj h1
    exact wpAny_getItem_list_neg pl.isList (by omega) (by rw [List.size_toArray] <;> omega) (by omega) (by rw [hj]; simpa using ew) ⟨z, H, I, rw', q⟩
/-- xs[k] op= e; h: ps_augS (pv i) hk get_list he ho set_list -/
theorem s_augIx {st : Stmt} {i : Nat} {f : D → D → Option D} {r : R2} (hf : Op2 X.K f r) (h : PS X st (tAugS (tVar i) (rdB X.K mk) (rdB X.K me) (rGetL X.K) r rSetL)) : PS X st (rdS X.K H0 (sAugIx i mk f me)) :=
  PS_wk h fun D0 σ H ⟨F, Γ, fl, Γ', R, z, q⟩ => by
    obtain ⟨xs, e1, z⟩ := Option.bind_eq_some_iff.mp z
    obtain ⟨n, e3, z⟩ := Option.bind_eq_some_iff.mp z
    obtain ⟨dk, e4, e6⟩ := Option.bind_eq_some_iff.mp e3
    rw [dI_some e6] at e4
    obtain ⟨j, e5, z⟩ := Option.bind_eq_some_iff.mp z
    obtain ⟨x, ex, z⟩ := Option.bind_eq_some_iff.mp z
    obtain ⟨y, ey, z⟩ := Option.bind_eq_some_iff.mp z
    obtain ⟨u, eu, z⟩ := Option.map_eq_some_iff.mp z
    cases z
    obtain ⟨a, vs, hi, h1, h2, h3, rr⟩ := R.lstAt e1
    refine ⟨.ref a, h1, H0, F, Γ, .int n, R, e4, fun w H1 F1 E1 rw' => ?_⟩
    obtain ⟨vx, g1, g2⟩ := rr.get ex
    refine ⟨a, vs, n, vx, rfl, rw'.int, .of (E1.h _ _ h2), by unfold atI; rw [rr.length, e5]; exact g1, H0, F1, Γ, y, R.ext E1, ey, fun vy H2 F2 E2 ry => ?_⟩
    refine hf F2 H2 vx vy x y u _ E2.fh (.inl ((g2.mono E1.f).mono E2.f)) ry eu fun vu H3 F3 E3 ru => ?_
    have E := (E1.trans E2).trans E3
    refine ⟨a, vs, n, j, rfl, rw'.int, E.h _ _ h2, by rw [rr.length]; exact e5, ?_⟩
    have r2 := (rr.mono E.f).set j ru
    exact q σ _ F3 (Grow.ext R.h0 E) ((R.ext E).updOwn hi h1 rfl (.lst r2))
end
end SK

set_option Elab.async false
set_option linter.all false
set_option maxRecDepth 100000
set_option maxHeartbeats 4000000
set_option autoImplicit false
namespace SK
open PySem PySem.Spec PyProof.Rows L2

/-! ### comprehensions -/
def wipeE (Γ : En) : List Nat → En
  | [] => Γ
  | v :: vs => (wipeE Γ vs).set v .emp
theorem Rel.setEmp {K : PySem.W.Frag} {H0 F H : Hp} {σ : L2.St} {Γ : En} (R : Rel K H0 F H σ Γ) (i : Nat) : Rel K H0 F H (σ.set i none) (Γ.set i .emp) := by
  refine ⟨R.h0, R.fh, by rw [List.length_set, List.length_set]; exact R.len, fun j s hj => ?_, fun j k d1 d2 a h1 h2 h3 h4 => ?_⟩
  · rcases set_get hj with ⟨rfl, rfl, hl⟩ | ⟨hne, hj⟩
    · exact ⟨none, get_set (by rw [R.len]; exact hl), trivial⟩
    · obtain ⟨o, q1, q2⟩ := R.sl j s hj
      exact ⟨o, by rw [get_set_ne hne]; exact q1, q2⟩
  · rcases set_get h1 with ⟨_, e, _⟩ | ⟨n1, h1⟩
    · cases e
    · rcases set_get h2 with ⟨_, e, _⟩ | ⟨n2, h2⟩
      · cases e
      · rw [get_set_ne n1] at h3; rw [get_set_ne n2] at h4
        exact R.sep j k d1 d2 a h1 h2 h3 h4
theorem Rel.wipe {K : PySem.W.Frag} {H0 F H : Hp} {σ : L2.St} {Γ : En} (R : Rel K H0 F H σ Γ) : ∀ vs : List Nat, Rel K H0 F H (L2.wipe σ vs) (wipeE Γ vs)
  | [] => R
  | v :: vs => (Rel.wipe R vs).setEmp v
theorem wipe_at (σ : L2.St) : ∀ (vs : List Nat) (i : Nat), (L2.wipe σ vs)[i]? = if i ∈ vs then (if i < σ.length then some none else none) else σ[i]?
  | [], i => by simp [L2.wipe]
  | v :: vs, i => by
    show ((L2.wipe σ vs).set v none)[i]? = _
    rw [List.getElem?_set, L2.wipe_length]
    by_cases h : v = i
    · subst h
      rw [if_pos rfl, if_pos List.mem_cons_self]
    · rw [if_neg h, wipe_at σ vs i]
      by_cases q : i ∈ vs
      · rw [if_pos q, if_pos (List.mem_cons_of_mem _ q)]
      · rw [if_neg q, if_neg (fun z => by rcases List.mem_cons.mp z with rfl | z; exact h rfl; exact q z)]
theorem wipe_off {σ σ' : L2.St} {ws vs : List Nat} (h : Off ws (L2.wipe σ vs) σ') (hw : ∀ i ∈ ws, i ∈ vs) : L2.wipe σ' vs = L2.wipe σ vs := by
  apply List.ext_getElem?
  intro i
  rw [wipe_at, wipe_at]
  have hl : σ'.length = σ.length := h.1.trans (L2.wipe_length _ _)
  by_cases q : i ∈ vs
  · rw [if_pos q, if_pos q, hl]
  · rw [if_neg q, if_neg q, h.2 i (fun z => q (hw i z)), wipe_at, if_neg q]
/-- the second clause's names are among the block's -/
theorem wipe_off2 {σ σ' : L2.St} {ws vs : List Nat} (h : Off ws (L2.wipe σ vs) σ') (hw : ∀ i ∈ ws, i ∈ vs) : L2.wipe σ' vs = L2.wipe σ vs := wipe_off h hw
theorem Ext.updNew {F H F' H' : Hp} (E : Ext F H F' H') {D : Addr} {o : HO} (n : H D = none) (f : F' D = none) : Ext F H F' (upd H' D o) := by
  refine ⟨E.f, fun b u e => ?_, fun b u e => ?_, E.new⟩
  · rw [upd_ne (ne_of_none e n)]; exact E.h _ _ e
  · rw [upd_ne (ne_of_none e f)]; exact E.fh _ _ e
theorem Ext.notIn {F H F' H' : Hp} (E : Ext F H F' H') {D : Addr} {o : HO} (h : H D = some o) (f : F D = none) : F' D = none := by
  cases q : F' D with
  | none => rfl
  | some u => have := E.new D u q f; rw [h] at this; cases this

def mLcL (g : MG) (c : MT) (el : ME) (Γ : En) : List D → Option (List D)
  | [] => some []
  | x :: xs => (g x Γ).bind fun Γ1 => (c Γ1).bind fun t => if t then (el Γ1).bind fun y => (mLcL g c el Γ xs).map (y :: ·) else mLcL g c el Γ xs
def mYes : MT := fun _ => some true
def mLc (ml : ML) (g : MG) (c : MT) (el : ME) (vs : List Nat) : ME := fun Γ => (ml Γ).bind fun xs => (mLcL g c el (wipeE Γ vs) xs).bind fun ys => if ys.length ≤ LIM then some (.lst ys) else none
section
variable {X : Cx} {tg elt iter c : Expr} {ifs : List Expr} {scope : Scope} {own : List (Str × Nat)} {pos : Pos} {ml : ML} {g : MG} {mt : MT} {me : ME} {ws vs : List Nat}
theorem PTs_wk {X : Cx} {es : List Expr} {t t' : TT} (h : PTs X es t) (w : ∀ σ H Q, t' σ H Q → t σ H Q) : PTs X es t' := ⟨fun pins s σ H Q I q => h.run pins s σ H Q I (w _ _ _ q)⟩
theorem c_nil : PTs X [] (rdT X.K mYes) := PTs_wk pts_nil fun σ H Q ⟨H0, F, Γ, b, R, z, q⟩ => by cases z; exact q H F (.refl R.fh)
theorem c_one (h : PT X c (rdT X.K mt)) : PTs X [c] (rdT X.K mt) := pts_one h
/-- one clause: from the readings to HandS's -/
theorem lc_of {K : PySem.W.Frag} (hw : ∀ i ∈ ws, i ∈ vs) {σ H Q} (h : rdN K (mLc ml g mt me vs) σ H Q) : tLc (rdI K ml) (rdG K ws g) (rdT K mt) (rdE K me) vs σ H Q := by
  obtain ⟨H0, F, Γ, d, R, z, q⟩ := h
  obtain ⟨xs, e1, z⟩ := Option.bind_eq_some_iff.mp z
  obtain ⟨ys, e2, z⟩ := Option.bind_eq_some_iff.mp z
  obtain ⟨lim, rfl⟩ := if_some z
  refine ⟨H0, F, Γ, xs, R, e1, fun J H1 F1 E1 ok D nD => ?_⟩
  have R1 := R.ext E1
  have nF1 : F1 D = none := E1.fh.free nD
  refine ⟨fun i m H => i + m = xs.length ∧ ∃ F' acc done ys', Ext F1 H1 F' H ∧ F' D = none ∧ H D = some (.lst acc) ∧ RepL K F' acc done ∧ done ++ ys' = ys ∧ mLcL g mt me (wipeE Γ vs) (xs.drop i) = some ys',
    ⟨xs.length, by omega, F1, [], [], ys, Ext.own E1.fh nD, nF1, upd_same, .nil, rfl, by rw [List.drop_zero]; exact e2⟩, fun i m H h => ?_⟩
  obtain ⟨hm, F', acc, done, ys', E, fD, hD, rep, app, z2⟩ := h
  by_cases hi : i < xs.length
  · rw [List.drop_eq_getElem_cons hi] at z2
    obtain ⟨Γ1, e3, z2⟩ := Option.bind_eq_some_iff.mp z2
    obtain ⟨t, e4, z2⟩ := Option.bind_eq_some_iff.mp z2
    obtain ⟨gg, yy⟩ := ok.go F' H i xs[i] E.f E.fh (List.getElem?_eq_getElem hi)
    refine .inr ⟨gg, fun H => (i + 1) + (m - 1) = xs.length ∧ ∃ F' acc done ys', Ext F1 H1 F' H ∧ F' D = none ∧ H D = some (.lst acc) ∧ RepL K F' acc done ∧ done ++ ys' = ys ∧ mLcL g mt me (wipeE Γ vs) (xs.drop (i + 1)) = some ys',
      fun H' hN => ⟨m - 1, by omega, hN⟩, fun x H' y => ?_⟩
    obtain ⟨F2, E2, r2⟩ := yy x H' y
    have f2 := E2.notIn hD fD
    refine ⟨H0, F2, wipeE Γ vs, xs[i], Γ1, ((R1.ext E).ext E2).wipe vs, r2, e3, fun σ3 R3 off kept => ⟨wipe_off off hw, H0, F2, Γ1, t, R3, e4, fun H4 F4 E4 => ?_⟩⟩
    have f4 := E4.notIn (E2.h _ _ hD) f2
    have E24 := E2.trans E4
    have hD4 := E24.h _ _ hD
    cases t with
    | false => exact iteF ⟨by omega, F4, acc, done, ys', E.trans E24, f4, hD4, rep.mono E24.f, app, z2⟩
    | true =>
      obtain ⟨y, e5, z2⟩ := Option.bind_eq_some_iff.mp z2
      obtain ⟨ys2, e6, e7⟩ := Option.map_eq_some_iff.mp z2
      subst e7
      refine iteT ⟨H0, F4, Γ1, y, R3.ext E4, e5, fun v H5 F5 E5 rv => ⟨acc, E5.h _ _ hD4, ?_, by omega, F5, acc ++ [v], done ++ [y], ys2, ?_, E5.notIn hD4 f4, upd_same, ((rep.mono E24.f).mono E5.f).append (.cons rv .nil), ?_, e6⟩⟩
      · rw [rep.length, ← lim_line]
        have : ys.length = done.length + (ys2.length + 1) := by rw [← app, List.length_append, List.length_cons]
        omega
      · exact ((E.trans E24).trans E5).updNew nD (E5.notIn hD4 f4)
      · rw [List.append_assoc]; exact app
  · have hl : i = xs.length := by omega
    subst hl
    rw [List.drop_length] at z2
    cases z2
    rw [List.append_nil] at app
    subst app
    exact .inl ⟨ok.stop F' H E.f E.fh, q D (.lst acc) H F' (E1.trans E) (E1.h.free nD) fD hD rfl (.lst rep)⟩
theorem r_lc (hc : X.calm = true) (hN : X.N.Nodup) (hi : PI X tg iter (rdI X.K ml)) (ok : BlkOk X.N X.env.scope scope own)
    (hg : ∀ (s : Shared) (H : Hp) (C : Addr) (cl : List (Str × Addr)) (fp : List Addr), PG (X.blk s H scope (compEnvC scope cl C X.env) fp) tg (rdG X.K ws g)) (ht : ∀ (s : Shared) (H : Hp) (C : Addr) (cl : List (Str × Addr)) (fp : List Addr), PTs (X.blk s H scope (compEnvC scope cl C X.env) fp) ifs (rdT X.K mt))
    (he : ∀ (s : Shared) (H : Hp) (C : Addr) (cl : List (Str × Addr)) (fp : List Addr), PE (X.blk s H scope (compEnvC scope cl C X.env) fp) elt (rdE X.K me)) (hw : ∀ i ∈ ws, i ∈ own.map (·.2) := by decide) (hs : ∀ x, foldedSetIterable iter X.env x = pure x := by intro _; rfl) :
    PE X (.ListComp elt [⟨tg, iter, ifs, 0⟩] scope pos) (rdN X.K (mLc ml g mt me (own.map (·.2)))) :=
  PE.wk (pe_lc hc hN hi ok hg ht he hs) fun _ _ _ h => lc_of hw h
theorem set_of {K : PySem.W.Frag} {H0 : Hp} {m : ME} {t : TE} {i : Nat} (hm : ∀ σ H Q, rdN K m σ H Q → t σ H Q) {D0 : Ends} {σ : L2.St} {H : Hp} (h : rdS K H0 (sSet i (xO m)) D0 σ H) : tAsg t (gName i) D0 σ H := by
  obtain ⟨F, Γ, fl, Γ', R, z, q⟩ := h
  obtain ⟨s, e1, z⟩ := Option.map_eq_some_iff.mp z
  obtain ⟨d, e2, rfl⟩ := Option.map_eq_some_iff.mp e1
  cases z
  exact hm _ _ _ ⟨H0, F, Γ, d, R, e2, fun a o H' F' E n fa ha m r => q _ H' F' (Grow.ext R.h0 E) (R.setX E (s := .own d) ⟨m, a, o, rfl, n, fa, ha, r⟩ i)⟩
/-- name = [..] on one line -/
theorem s_setLc (i : Nat) {H0 : Hp} {y : Str} {py spos : Pos} (hc : X.calm = true) (hN : X.N.Nodup) (hi : PI X tg iter (rdI X.K ml)) (ok : BlkOk X.N X.env.scope scope own)
    (hg : ∀ (s : Shared) (H : Hp) (C : Addr) (cl : List (Str × Addr)) (fp : List Addr), PG (X.blk s H scope (compEnvC scope cl C X.env) fp) tg (rdG X.K ws g)) (ht : ∀ (s : Shared) (H : Hp) (C : Addr) (cl : List (Str × Addr)) (fp : List Addr), PTs (X.blk s H scope (compEnvC scope cl C X.env) fp) ifs (rdT X.K mt))
    (he : ∀ (s : Shared) (H : Hp) (C : Addr) (cl : List (Str × Addr)) (fp : List Addr), PE (X.blk s H scope (compEnvC scope cl C X.env) fp) elt (rdE X.K me))
    (hsw : swapsWith (.ListComp elt [⟨tg, iter, ifs, 0⟩] scope pos) (some (.Name y py)) spos.line X.env = pure true) (hy : X.N[i]? = some y := by rfl) (hyl : X.env.scope.names.lookup y = some .local := by rfl) (hw : ∀ i ∈ ws, i ∈ own.map (·.2) := by decide)
    (hs : ∀ x, foldedSetIterable iter X.env x = pure x := by intro _; rfl) : PS X (.Assign [.Name y py] (.ListComp elt [⟨tg, iter, ifs, 0⟩] scope pos) spos) (rdS X.K H0 (sSet i (xO (mLc ml g mt me (own.map (·.2)))))) :=
  PS_wk (ps_setLc hc hN hy hyl hsw hi ok hg ht he hs) fun _ _ _ h => set_of (fun _ _ _ h => lc_of hw h) h
end

/-! ### two clauses -/
def mLc2L (g : MG) (c : MT) (ml1 : ML) (g1 : MG) (c1 : MT) (el : ME) (vs1 : List Nat) (Γ : En) : List D → Option (List D)
  | [] => some []
  | x :: xs => (g x Γ).bind fun Γ1 => (c Γ1).bind fun t => if t then (ml1 Γ1).bind fun xs1 => (mLcL g1 c1 el (wipeE Γ1 vs1) xs1).bind fun ys => (mLc2L g c ml1 g1 c1 el vs1 Γ xs).map (ys ++ ·) else mLc2L g c ml1 g1 c1 el vs1 Γ xs
def mLc2 (ml : ML) (g : MG) (c : MT) (ml1 : ML) (g1 : MG) (c1 : MT) (el : ME) (vs vs1 : List Nat) : ME := fun Γ => (ml Γ).bind fun xs => (mLc2L g c ml1 g1 c1 el vs1 (wipeE Γ vs) xs).bind fun ys => if ys.length ≤ LIM then some (.lst ys) else none
section
variable {X : Cx} {tg elt iter tg1 iter1 c : Expr} {ifs ifs1 : List Expr} {scope : Scope} {own : List (Str × Nat)} {pos : Pos} {ml ml1 : ML} {g g1 : MG} {mt mt1 : MT} {me : ME} {ws ws1 vs vs1 : List Nat}
theorem lc2_of {K : PySem.W.Frag} (hw : ∀ i ∈ ws, i ∈ vs) (hw1 : ∀ i ∈ ws1, i ∈ vs1) {σ H Q} (h : rdN K (mLc2 ml g mt ml1 g1 mt1 me vs vs1) σ H Q) : tLc2 (rdI K ml) (rdG K ws g) (rdT K mt) (rdI K ml1) (rdG K ws1 g1) (rdT K mt1) (rdE K me) vs vs1 σ H Q := by
  obtain ⟨H0, F, Γ, d, R, z, q⟩ := h
  obtain ⟨xs, e1, z⟩ := Option.bind_eq_some_iff.mp z
  obtain ⟨ys, e2, z⟩ := Option.bind_eq_some_iff.mp z
  obtain ⟨lim, rfl⟩ := if_some z
  refine ⟨H0, F, Γ, xs, R, e1, fun J H1 F1 E1 ok D nD => ?_⟩
  have R1 := R.ext E1
  have nF1 : F1 D = none := E1.fh.free nD
  refine ⟨fun i m H => i + m = xs.length ∧ ∃ F' acc done ys', Ext F1 H1 F' H ∧ F' D = none ∧ H D = some (.lst acc) ∧ RepL K F' acc done ∧ done ++ ys' = ys ∧ mLc2L g mt ml1 g1 mt1 me vs1 (wipeE Γ vs) (xs.drop i) = some ys',
    ⟨xs.length, by omega, F1, [], [], ys, Ext.own E1.fh nD, nF1, upd_same, .nil, rfl, by rw [List.drop_zero]; exact e2⟩, fun i m H h => ?_⟩
  obtain ⟨hm, F', acc, done, ys', E, fD, hD, rep, app, z2⟩ := h
  by_cases hi : i < xs.length
  · rw [List.drop_eq_getElem_cons hi] at z2
    obtain ⟨Γ1, e3, z2⟩ := Option.bind_eq_some_iff.mp z2
    obtain ⟨t, e4, z2⟩ := Option.bind_eq_some_iff.mp z2
    obtain ⟨gg, yy⟩ := ok.go F' H i xs[i] E.f E.fh (List.getElem?_eq_getElem hi)
    refine .inr ⟨gg, fun H => (i + 1) + (m - 1) = xs.length ∧ ∃ F' acc done ys', Ext F1 H1 F' H ∧ F' D = none ∧ H D = some (.lst acc) ∧ RepL K F' acc done ∧ done ++ ys' = ys ∧ mLc2L g mt ml1 g1 mt1 me vs1 (wipeE Γ vs) (xs.drop (i + 1)) = some ys',
      fun H' hN => ⟨m - 1, by omega, hN⟩, fun x H' y => ?_⟩
    obtain ⟨F2, E2, r2⟩ := yy x H' y
    have f2 := E2.notIn hD fD
    refine ⟨H0, F2, wipeE Γ vs, xs[i], Γ1, ((R1.ext E).ext E2).wipe vs, r2, e3, fun σ3 R3 off kept => ⟨wipe_off off hw, H0, F2, Γ1, t, R3, e4, fun H4 F4 E4 => ?_⟩⟩
    have f4 := E4.notIn (E2.h _ _ hD) f2
    have E24 := E2.trans E4
    have hD4 := E24.h _ _ hD
    cases t with
    | false => exact iteF ⟨by omega, F4, acc, done, ys', E.trans E24, f4, hD4, rep.mono E24.f, app, z2⟩
    | true =>
      obtain ⟨xs1, e5, z2⟩ := Option.bind_eq_some_iff.mp z2
      obtain ⟨zs, e6, z2⟩ := Option.bind_eq_some_iff.mp z2
      obtain ⟨ys2, e7, e8⟩ := Option.map_eq_some_iff.mp z2
      subst e8
      refine iteT ⟨H0, F4, Γ1, xs1, R3.ext E4, e5, fun J1 H5 F5 E5 ok1 => ?_⟩
      have f5 := E5.notIn hD4 f4
      have E5' := (E.trans E24).trans E5
      have R5 := (R3.ext E4).ext E5
      refine ⟨fun j k H => j + k = xs1.length ∧ ∃ F' acc done ys', Ext F1 H1 F' H ∧ Same F5 F' ∧ Rel K H0 F' H σ3 Γ1 ∧ F' D = none ∧ H D = some (.lst acc) ∧ RepL K F' acc done ∧ done ++ (ys' ++ ys2) = ys ∧ mLcL g1 mt1 me (wipeE Γ1 vs1) (xs1.drop j) = some ys',
        ⟨xs1.length, by omega, F5, acc, done, zs, E5', .refl _, R5, f5, E5.h _ _ hD4, rep.mono (E24.trans E5).f, app, by rw [List.drop_zero]; exact e6⟩, fun j k H h => ?_⟩
      obtain ⟨hk, F6, acc6, done6, ys6, E6, s6, R6, f6, hD6, rep6, app6, z6⟩ := h
      by_cases hj : j < xs1.length
      · rw [List.drop_eq_getElem_cons hj] at z6
        obtain ⟨Γ7, e9, z6⟩ := Option.bind_eq_some_iff.mp z6
        obtain ⟨t7, e10, z6⟩ := Option.bind_eq_some_iff.mp z6
        obtain ⟨g7, y7⟩ := ok1.go F6 H j xs1[j] s6 E6.fh (List.getElem?_eq_getElem hj)
        refine .inr ⟨g7, fun H => (j + 1) + (k - 1) = xs1.length ∧ ∃ F' acc done ys', Ext F1 H1 F' H ∧ Same F5 F' ∧ Rel K H0 F' H σ3 Γ1 ∧ F' D = none ∧ H D = some (.lst acc) ∧ RepL K F' acc done ∧ done ++ (ys' ++ ys2) = ys ∧ mLcL g1 mt1 me (wipeE Γ1 vs1) (xs1.drop (j + 1)) = some ys',
          fun H' hN => ⟨k - 1, by omega, hN⟩, fun x1 H7 y1 => ?_⟩
        obtain ⟨F7, E7, r7⟩ := y7 x1 H7 y1
        have f7 := E7.notIn hD6 f6
        refine ⟨H0, F7, wipeE Γ1 vs1, xs1[j], Γ7, (R6.ext E7).wipe vs1, r7, e9, fun σ8 R8 off8 _ => ⟨wipe_off off8 hw1, H0, F7, Γ7, t7, R8, e10, fun H9 F9 E9 => ?_⟩⟩
        have f9 := E9.notIn (E7.h _ _ hD6) f7
        have E79 := E7.trans E9
        have hD9 := E79.h _ _ hD6
        cases t7 with
        | false => exact iteF ⟨by omega, F9, acc6, done6, ys6, E6.trans E79, s6.trans E79.f, R6.ext E79, f9, hD9, rep6.mono E79.f, app6, z6⟩
        | true =>
          obtain ⟨y, e11, z6⟩ := Option.bind_eq_some_iff.mp z6
          obtain ⟨ys10, e12, e13⟩ := Option.map_eq_some_iff.mp z6
          subst e13
          refine iteT ⟨H0, F9, Γ7, y, R8.ext E9, e11, fun v H10 F10 E10 rv => ?_⟩
          have fA := E10.notIn hD9 f9
          have EA := E79.trans E10
          refine ⟨acc6, E10.h _ _ hD9, ?_, by omega, F10, acc6 ++ [v], done6 ++ [y], ys10, ?_, s6.trans EA.f, ?_, fA, upd_same, (rep6.mono EA.f).append (.cons rv .nil), ?_, e12⟩
          · rw [rep6.length, ← lim_line]
            have : ys.length = done6.length + ((ys10.length + 1) + ys2.length) := by rw [← app6, List.length_append, List.length_append, List.length_cons]
            omega
          · exact (E6.trans EA).updNew nD fA
          · have RA := R6.ext EA
            exact RA.updOff fA (R1.h0.free nD) fun j e hj => by
              obtain ⟨k1, k2⟩ := kept j e hj
              rw [k2]
              exact (R1.wipe vs).newOff nD j e k1
          · rw [List.append_assoc]; exact app6
      · have hl : j = xs1.length := by omega
        subst hl
        rw [List.drop_length] at z6
        cases z6
        exact .inl ⟨ok1.stop F6 H s6 E6.fh, by omega, F6, acc6, done6, ys2, E6, f6, hD6, rep6, app6, e7⟩
  · have hl : i = xs.length := by omega
    subst hl
    rw [List.drop_length] at z2
    cases z2
    rw [List.append_nil] at app
    subst app
    exact .inl ⟨ok.stop F' H E.f E.fh, q D (.lst acc) H F' (E1.trans E) (E1.h.free nD) fD hD rfl (.lst rep)⟩
end
end SK

set_option Elab.async false
set_option linter.all false
set_option maxRecDepth 100000
set_option maxHeartbeats 4000000
set_option autoImplicit false
namespace SK
open PySem PySem.Spec PyProof.Rows L2

/-! ### a def -/
def runFn (np nn : Nat) (b : MS) : List D → Option D := fun ds => if ds.length = np then
    match b (ds.map Slot.val ++ List.replicate (nn - np) Slot.emp) with
    | some (.rt d, _) => some d
    | some (.nx, _) => some .non
    | _ => none
  else none
theorem start_rel {K : PySem.W.Frag} {F H : Hp} {vs : List V} {ds : List D} {N : List Str} (s : Same F H) (r : RepL K F vs ds) : Rel K H F H (L2.start N vs) (ds.map Slot.val ++ List.replicate (N.length - ds.length) Slot.emp) := by
  have hl := r.length
  have nown : ∀ (j : Nat) (e : D), (ds.map Slot.val ++ List.replicate (N.length - ds.length) Slot.emp)[j]? ≠ some (.own e) := fun j e h => by
    rw [List.getElem?_append] at h
    split at h
    · rw [List.getElem?_map] at h
      obtain ⟨d, _, h⟩ := Option.map_eq_some_iff.mp h
      cases h
    · rw [List.getElem?_replicate] at h
      split at h
      · cases h
      · cases h
  refine ⟨.refl _, s, ?_, fun i t hi => ?_, fun i j d e a h1 _ _ _ => (nown i d h1).elim⟩
  · unfold L2.start
    rw [List.length_append, List.length_append, List.length_map, List.length_map, List.length_replicate, List.length_replicate, hl]
  · unfold L2.start
    rw [List.getElem?_append, List.length_map] at hi
    rw [List.getElem?_append, List.length_map, hl]
    split at hi
    · rename_i c
      rw [if_pos c]
      rw [List.getElem?_map] at hi
      obtain ⟨d, e1, rfl⟩ := Option.map_eq_some_iff.mp hi
      obtain ⟨v, h1, h2⟩ := r.get e1
      exact ⟨some v, by rw [List.getElem?_map, h1]; rfl, v, rfl, h2⟩
    · rename_i c
      rw [if_neg c]
      rw [List.getElem?_replicate] at hi ⊢
      split at hi
      · rename_i c2
        cases hi
        exact ⟨none, by rw [if_pos c2], trivial⟩
      · cases hi
section
variable {P : Program} {w : World} {K : PySem.W.Frag} {mg : Str → Option Value} {base : Heap}
/-- a def keeps its promise: its body's derivation -/
theorem fn_ok {x qual : Str} {st : Stmt} {f : Addr} {fd : FuncData} {N ps : List Str} {k : Nat} {b : MS} (F : Fun K x qual st f fd) (S : FnScope N ps (defScope st))
    (body : ∀ (cdv : Value) (A : Around) (outer : List Env) (s : Shared) (H : Hp) (E : XK), Room k (A.deeper (envOfC qual (defScope st) s.heap.objs.size f cdv)) → PSs (cxOf CX0 P w K mg base N qual (defScope st) f cdv A outer s H E).nox (defBody st) (rdS K H b)) :
    FnOk P w K mg base CX0 (k + 1) f fd ps (spF K (runFn ps.length N.length b)) := by
  have hlen : ∀ vs H Q E, spF K (runFn ps.length N.length b) vs H Q E → vs.length = ps.length := fun vs H Q E h => by
    obtain ⟨F0, ds, d, s, r, e, q⟩ := h
    unfold runFn at e
    split at e
    · rename_i c; rw [r.length]; exact c
    · cases e
  refine F.ok S hlen fun cdv A outer s H vs Q E hr h => ⟨rdS K H b, body cdv A outer s H E hr, ?_⟩
  have hl := hlen vs H Q E h
  obtain ⟨F0, ds, d, sm, r, e, q⟩ := h
  unfold runFn at e
  rw [if_pos (r.length.symm.trans hl), show N.length - ps.length = N.length - ds.length by rw [← hl, r.length]] at e
  have R := start_rel (N := N) sm r
  split at e
  · rename_i d' Γ' e1
    cases e
    refine ⟨F0, _, .rt d, Γ', R, e1, fun σ1 H1 F1 G R1 v F' H' E1 rv => q v H' F' ?_ rv⟩
    exact Ext.trans ⟨G.1, R1.h0, R1.fh, G.2⟩ E1
  · rename_i Γ' e1
    cases e
    exact ⟨F0, _, .nx, Γ', R, e1, fun σ1 H1 F1 G R1 => q .non H1 F1 ⟨G.1, R1.h0, R1.fh, G.2⟩ .non⟩
  · cases e
/-- a mirror: where it answers, the def answers the same -/
def LeF (n m : List D → Option D) : Prop := ∀ x r, n x = some r → m x = some r
theorem okLe {f : Addr} {fd : FuncData} {ps : List Str} {k : Nat} {n m : List D → Option D} (G : FnOk P w K mg base CX0 k f fd ps (spF K m)) (h : LeF n m) : FnOk P w K mg base CX0 k f fd ps (spF K n) :=
  G.imp fun vs H Q E ⟨F, ds, d, s, r, e, q⟩ => ⟨F, ds, d, s, r, h _ _ e, q⟩
/-- the law's promise -/
def spLaw (K : PySem.W.Frag) : Sp := fun vs H Q _ => ∃ (a : Addr) (ns : List Int), vs = [.ref a] ∧ SqL K H a (ns.map V.int) ∧ ns.length ≤ 63 ∧ ∀ H', Q (.bl true) H'
theorem law_ok {f : Addr} {fd : FuncData} {ps : List Str} {k : Nat} {m : List D → Option D} (G : FnOk P w K mg base CX0 k f fd ps (spF K m)) (h : ∀ ns : List Int, ns.length ≤ 63 → m [.scr ns] = some (.bl true)) : FnOk P w K mg base CX0 k f fd ps (spLaw K) :=
  G.imp fun vs H Q E ⟨a, ns, e, hs, hl, q⟩ => ⟨H, [.scr ns], .bl true, .refl _, by rw [e]; exact .cons (.scr hs) .nil, h ns hl, fun v H' F' _ r => by rw [r.blI]; exact q H'⟩
end
end SK

set_option Elab.async false
set_option linter.all false
set_option maxRecDepth 100000
set_option maxHeartbeats 4000000
set_option autoImplicit false
namespace SK
open PySem PySem.Spec PyProof.Rows L2

/-! ### isinstance -/
inductive Ty where
  | int | bool | tuple | list | str
def Ty.nm : Ty → String
  | .int => "int" | .bool => "bool" | .tuple => "tuple" | .list => "list" | .str => "str"
def D.kd : D → Option String
  | .non => some "NoneType"
  | .bl _ => some "bool"
  | .int _ => some "int"
  | .str _ => some "str"
  | .tup _ => some "tuple"
  | .lst _ => some "list"
  | .scr _ => none
def isi : Ty → D → Option Bool
  | _, .scr _ => none
  | .int, .int _ => some true
  | .int, .bl _ => some true
  | .bool, .bl _ => some true
  | .tuple, .tup _ => some true
  | .list, .lst _ => some true
  | .str, .str _ => some true
  | _, _ => some false
def dIsi (t : Ty) (d : D) : Option D := (isi t d).map .bl
theorem tyOf_B {K : PySem.W.Frag} {F H : Hp} {v : V} {d : D} {k : String} (s : Same F H) (r : RepB K F H v d) (h : d.kd = some k) : TyOf K H v (.type k) := by
  cases d with
  | non => rw [r.non]; cases h; exact .non
  | bl a => rw [r.bl]; cases h; exact .bl a
  | int i => rw [r.int]; cases h; exact .int i
  | str x => rw [r.str]; cases h; exact .str x
  | tup xs =>
    obtain ⟨a, vs, rfl, h1, r1⟩ := r.tup
    cases h
    exact .tup (s _ _ h1)
  | lst xs =>
    obtain ⟨a, vs, rfl, h1, r1⟩ := r.lst s
    cases h
    exact .lst h1
  | scr ns => cases h
theorem isi_kit {K : PySem.W.Frag} {t : Ty} {d : D} {b : Bool} (h : isi t d = some b) : ∃ k, d.kd = some k ∧ PySem.W.kitOne K (.type k) (.type t.nm) = some b := by
  cases d with
  | scr ns => cases t <;> cases h
  | non => refine ⟨_, rfl, kit_ty ?_⟩; cases t <;> (cases h; decide +kernel)
  | bl a => refine ⟨_, rfl, kit_ty ?_⟩; cases t <;> (cases h; decide +kernel)
  | int i => refine ⟨_, rfl, kit_ty ?_⟩; cases t <;> (cases h; decide +kernel)
  | str x => refine ⟨_, rfl, kit_ty ?_⟩; cases t <;> (cases h; decide +kernel)
  | tup xs => refine ⟨_, rfl, kit_ty ?_⟩; cases t <;> (cases h; decide +kernel)
  | lst xs => refine ⟨_, rfl, kit_ty ?_⟩; cases t <;> (cases h; decide +kernel)
section
variable {X : Cx} {e : Expr} {x : Str} {p q pos : Pos} {me : ME}
theorem r_isi (t : Ty) (he : PE X e (rdB X.K me)) (hg : Gl X "isinstance") (hm : X.mg "isinstance" = none) (hx : Gl X x) (hmx : X.mg x = none) (hv : bootBuiltins x = some (.type t.nm)) (hxn : x ≠ "__name__" := by decide) (hxd : (x == ("__debug__" : Str)) = false := by decide)
    (h1 : starEach [e, .Name x q] X.env = (false, eval e X.env) :: starEach [.Name x q] X.env := by rfl) :
    PE X (.Call (.Name "isinstance" p) [e, .Name x q] [] pos) (rdE X.K (mUn (dIsi t) me)) :=
  PE.wk (pe_callB call_isi hg hm (by decide +kernel) (pa_cons he (pa_cons (pe_bltn (v := .ty t.nm) hx hmx hv rfl hxn hxd) pa_nil) h1) (he := h1)) fun σ H Q ⟨H0, F, Γ, d, R, z, qq⟩ => by
    obtain ⟨dx, ex, z⟩ := Option.bind_eq_some_iff.mp z
    obtain ⟨b, eb, rfl⟩ := Option.map_eq_some_iff.mp z
    refine ⟨H0, F, Γ, dx, R, ex, fun v H1 F1 E1 rv => ?_⟩
    obtain ⟨k, e1, e2⟩ := isi_kit (K := X.K) eb
    exact ⟨v, .ty t.nm, .type k, .type t.nm, b, rfl, .ty _, .base (tyOf_B E1.fh rv e1), e2, qq _ H1 F1 E1 (.bl _)⟩
end

/-! ### in, not in: flat items -/
def D.flat : D → Bool
  | .non => true
  | .bl _ => true
  | .int _ => true
  | .str _ => true
  | _ => false
theorem flat_rep {K : PySem.W.Frag} {F : Hp} {v : V} {d : D} (r : Rep K F v d) (h : d.flat = true) : flatV v = true := by
  cases r with
  | ob _ q => cases q <;> cases h
  | scr _ => cases h
  | _ => rfl
theorem eqV_rep {K : PySem.W.Frag} {F G : Hp} {v w : V} {d e : D} (r : Rep K F v d) (s : Rep K G w e) (h : d.flat = true) (k : e.flat = true) : eqV v w = D.eqb d e := by
  cases r with
  | ob _ q => cases q <;> cases h
  | scr _ => cases h
  | non => cases s with
    | ob _ q => cases q <;> cases k
    | scr _ => cases k
    | _ => simp only [eqV, D.eqb]
  | bl => cases s with
    | ob _ q => cases q <;> cases k
    | scr _ => cases k
    | _ => simp only [eqV, D.eqb]
  | int => cases s with
    | ob _ q => cases q <;> cases k
    | scr _ => cases k
    | _ => simp only [eqV, D.eqb]
  | str => cases s with
    | ob _ q => cases q <;> cases k
    | scr _ => cases k
    | _ => simp only [eqV, D.eqb]
theorem inV_rep {K : PySem.W.Frag} {F G : Hp} {w : V} {e : D} (s : Rep K G w e) (k : e.flat = true) : ∀ {vs : List V} {ds : List D}, RepL K F vs ds → ds.all D.flat = true → vs.all flatV = true ∧ inV w vs = ds.any fun d => D.eqb d e
  | _, _, .nil, _ => ⟨rfl, rfl⟩
  | _, _, .cons h r, a => by
    rw [List.all_cons] at a
    obtain ⟨a1, a2⟩ := Bool.and_eq_true_iff.mp a
    obtain ⟨i1, i2⟩ := inV_rep s k r a2
    refine ⟨by rw [List.all_cons, flat_rep h a1, i1]; rfl, ?_⟩
    unfold inV at i2 ⊢
    rw [List.any_cons, List.any_cons, i2, eqV_rep h s a1 k]
def dIn (x c : D) : Option D := (itemsD c).bind fun ds => if x.flat && ds.all D.flat then some (.bl (ds.any fun d => D.eqb d x)) else none
def dNotIn (x c : D) : Option D := (itemsD c).bind fun ds => if x.flat && ds.all D.flat then some (.bl (!ds.any fun d => D.eqb d x)) else none
theorem seq_B {K : PySem.W.Frag} {F H : Hp} {v : V} {d : D} {ds : List D} (s : Same F H) (r : RepB K F H v d) (h : itemsD d = some ds) : ∃ p vs, v = .ref p ∧ (SqL K H p vs ∨ SqT K H p vs) ∧ RepL K F vs ds := by
  unfold itemsD at h
  split at h
  · cases h
    obtain ⟨a, vs, rfl, h1, r1⟩ := r.tup
    exact ⟨a, vs, rfl, .inr (.of (s _ _ h1)), r1⟩
  · cases h
    obtain ⟨a, vs, rfl, h1, r1⟩ := r.lst s
    exact ⟨a, vs, rfl, .inl (.of h1), r1⟩
  · cases h
theorem flat_notM {d : D} (h : d.flat = true) : d.isM = false := by cases d <;> first | rfl | cases h
section
variable {K : PySem.W.Frag}
theorem d_in : Op2 K dIn (rIn K false) := by
  intro F H x y dx dy d Q s rx ry e q
  obtain ⟨ds, e1, e⟩ := Option.bind_eq_some_iff.mp e
  obtain ⟨c, rfl⟩ := ite_some e
  obtain ⟨c1, c2⟩ := Bool.and_eq_true_iff.mp c
  obtain ⟨p, vs, rfl, h1, r1⟩ := seq_B s ry e1
  have rx' := rx.full (flat_notM c1)
  obtain ⟨i1, i2⟩ := inV_rep rx' c1 r1 c2
  refine ⟨p, vs, rfl, h1, flat_rep rx' c1, i1, ?_⟩
  rw [i2]
  exact q _ H F (.refl s) (.bl _)
theorem d_notin : Op2 K dNotIn (rIn K true) := by
  intro F H x y dx dy d Q s rx ry e q
  obtain ⟨ds, e1, e⟩ := Option.bind_eq_some_iff.mp e
  obtain ⟨c, rfl⟩ := ite_some e
  obtain ⟨c1, c2⟩ := Bool.and_eq_true_iff.mp c
  obtain ⟨p, vs, rfl, h1, r1⟩ := seq_B s ry e1
  have rx' := rx.full (flat_notM c1)
  obtain ⟨i1, i2⟩ := inV_rep rx' c1 r1 c2
  refine ⟨p, vs, rfl, h1, flat_rep rx' c1, i1, ?_⟩
  rw [i2]
  exact q _ H F (.refl s) (.bl _)
/-! ### a list times an int -/
def dRepL : D → D → Option D
  | .lst xs, .int k => if okR 0 k && decide (xs.length * k.toNat ≤ LIM) then some (.lst (List.replicate k.toNat xs).flatten) else none
  | _, _ => none
theorem d_repL : Op2N K dRepL rRep := by
  intro F H x y dx dy d Q s rx ry e q
  unfold dRepL at e
  split at e
  · obtain ⟨c, rfl⟩ := ite_some e
    obtain ⟨c1, c2⟩ := Bool.and_eq_true_iff.mp c
    obtain ⟨b1, b2, b3, b4⟩ := okR_bounds c1
    have c2 := of_decide_eq_true c2
    obtain ⟨a, vs, rfl, h1, r1⟩ := rx.lst s
    have p63 : (2 : Int) ^ 63 = 9223372036854775808 := by decide
    refine ⟨a, _, vs, rfl, ry.int, h1, by rw [p63]; omega, by rw [p63]; omega, by rw [r1.length, ← lim_line]; exact c2, fun p np => ?_⟩
    exact q p _ _ F (Ext.own s np) np (s.free np) upd_same rfl (.lst (r1.flatRep _))
  · cases e
end

/-! ### range(i, j, c), enumerate, zip -/
def stepD (lo c : Int) (n : Nat) : List D := (List.range n).map fun i => D.int (lo + (i : Nat) * c)
theorem stepD_get {lo c : Int} {n i : Nat} {d : D} (e : (stepD lo c n)[i]? = some d) : i < n ∧ d = .int (lo + (i : Nat) * c) := by
  unfold stepD at e
  rw [List.getElem?_map] at e
  obtain ⟨j, e1, rfl⟩ := Option.map_eq_some_iff.mp e
  obtain ⟨h1, h2⟩ := List.getElem?_eq_some_iff.mp e1
  rw [List.length_range] at h1
  rw [List.getElem_range] at h2
  exact ⟨h1, by rw [← h2]⟩
theorem stepD_len (lo c : Int) (n : Nat) : (stepD lo c n).length = n := by unfold stepD; rw [List.length_map, List.length_range]
def rngN (i j c : Int) : Nat := (Builtin.Range.rangeSize i j c).toNat
def okC (i j c : Int) : Bool := decide (c ≠ 0) && decide (c.natAbs < 1073741824) && Builtin.Range.small i j c && decide (0 ≤ Builtin.Range.rangeSize i j c)
def mRng3 (a b c : ME) : ML := fun Γ => ((a Γ).bind dI).bind fun i => ((b Γ).bind dI).bind fun j => ((c Γ).bind dI).bind fun k => if okC i j k then some (stepD i k (rngN i j k)) else none
theorem bl3 {K : PySem.W.Frag} {F H : Hp} {vs : List V} {d e f : D} (r : RepBL K F H vs [d, e, f]) : ∃ v w u, vs = [v, w, u] ∧ RepB K F H v d ∧ RepB K F H w e ∧ RepB K F H u f := by
  cases r with | cons h r => cases r with | cons h2 r => cases r with | cons h3 r => cases r; exact ⟨_, _, _, rfl, h, h2, h3⟩
/-- what is told in pairs -/
def PairOk (K : PySem.W.Frag) (J : It) (xs ys : List D) : Prop := True
def enumD (xs : List D) : List D := (List.range xs.length).map fun (i : Nat) => D.tup [.int i, xs.getD i .non]
def zipD (xs ys : List D) : List D := (xs.zip ys).map fun p => D.tup [p.1, p.2]
def mEnum (m : ME) : ML := fun Γ => (mItems m Γ).map enumD
def mZip (a b : ME) : ML := fun Γ => (mItems a Γ).bind fun xs => (mItems b Γ).map fun ys => zipD xs ys
section
variable {X : Cx} {tg e e2 a b c : Expr} {elts : List Expr} {kk : Nat} {p pos tpos : Pos} {ma mb mc : ME}
theorem i_rng3 (hg : Gl X "range") (hm : X.mg "range" = none) (ha : PE X a (rdB X.K ma)) (hb : PE X b (rdB X.K mb)) (hc : PE X c (rdB X.K mc)) (na : starEach [a, b, c] X.env = (false, eval a X.env) :: starEach [b, c] X.env := by rfl)
    (nb : starEach [b, c] X.env = (false, eval b X.env) :: starEach [c] X.env := by rfl) (nc : starEach [c] X.env = (false, eval c X.env) :: starEach [] X.env := by rfl) :
    PI X tg (.Call (.Name "range" p) [a, b, c] [] pos) (rdI X.K (mRng3 ma mb mc)) :=
  PI_wk (pi_range3 hg hm (r_bcons ha (r_bcons hb (r_bcons hc r_bnil nc) nb) na) na (by rw [nb, nc]; rfl)) fun σ H R ⟨H0, F, Γ, xs, R0, z, q⟩ => by
    obtain ⟨i, e1, z⟩ := Option.bind_eq_some_iff.mp z
    obtain ⟨d, e2, e3⟩ := Option.bind_eq_some_iff.mp e1
    rw [dI_some e3] at e2
    obtain ⟨j, f1, z⟩ := Option.bind_eq_some_iff.mp z
    obtain ⟨d', f2, f3⟩ := Option.bind_eq_some_iff.mp f1
    rw [dI_some f3] at f2
    obtain ⟨k, g1, z⟩ := Option.bind_eq_some_iff.mp z
    obtain ⟨d'', g2, g3⟩ := Option.bind_eq_some_iff.mp g1
    rw [dI_some g3] at g2
    obtain ⟨c, rfl⟩ := ite_someL z
    unfold okC at c
    rw [Bool.and_eq_true, Bool.and_eq_true, Bool.and_eq_true, decide_eq_true_eq, decide_eq_true_eq, decide_eq_true_eq] at c
    refine ⟨H0, F, Γ, [.int i, .int j, .int k], R0, by simp only [mCons, mNil, e2, f2, g2, Option.bind_some], fun vs H' F' E r => ?_⟩
    obtain ⟨v, w, u, rfl, r1, r2, r3⟩ := bl3 r
    refine ⟨i, j, k, rngN i j k, by rw [r1.int, r2.int, r3.int], ⟨c.1.1.1, c.1.1.2, c.1.2, (Int.toNat_of_nonneg c.2).symm⟩, q _ H' F' E ?_⟩
    refine ⟨fun F H n d s1 s2 e => ?_, fun F H s1 s2 => by rw [stepD_len]; exact Nat.le_refl _⟩
    obtain ⟨h1, rfl⟩ := stepD_get e
    refine ⟨h1, fun x H' y => ?_⟩
    obtain ⟨rfl, rfl⟩ := y
    exact ⟨F, .refl s2, .int _⟩
theorem pair_new {K : PySem.W.Frag} {F H : Hp} {T : Addr} {x y : V} {dx dy : D} (s : Same F H) (n : H T = none) (rx : Rep K F x dx) (ry : Rep K F y dy) : ∃ F', Ext F H F' (upd H T (.tup [x, y])) ∧ Rep K F' (.ref T) (.tup [dx, dy]) := by
  have E := Ext.laid s (o := .tup [x, y]) n
  exact ⟨_, E, .ob upd_same (.tup (.cons (rx.mono E.f) (.cons (ry.mono E.f) .nil)))⟩
theorem enumD_get {xs : List D} {i : Nat} {d : D} (e : (enumD xs)[i]? = some d) : ∃ x, xs[i]? = some x ∧ d = .tup [.int (i : Nat), x] := by
  unfold enumD at e
  rw [List.getElem?_map] at e
  obtain ⟨j, e1, rfl⟩ := Option.map_eq_some_iff.mp e
  obtain ⟨h1, h2⟩ := List.getElem?_eq_some_iff.mp e1
  rw [List.length_range] at h1
  rw [List.getElem_range] at h2
  subst h2
  exact ⟨xs[i], List.getElem?_eq_getElem h1, by rw [List.getD_eq_getElem?_getD, List.getElem?_eq_getElem h1]; rfl⟩
theorem enumD_len (xs : List D) : (enumD xs).length = xs.length := by unfold enumD; rw [List.length_map, List.length_range]
theorem ite_ok {K : PySem.W.Frag} {F1 : Hp} {a : Addr} {vs : List V} {xs : List D} (h : F1 a = some (.lst vs)) (r : RepL K F1 vs xs) : ItOk K F1 (Ite K a) (enumD xs) := by
  refine ⟨fun F H i d s1 s2 e => ?_, fun F H s1 s2 => ⟨vs, .of (s2 _ _ (s1 _ _ h)), by rw [r.length, enumD_len]; exact Nat.le_refl _⟩⟩
  obtain ⟨x, e1, rfl⟩ := enumD_get e
  obtain ⟨v, h1, h2⟩ := r.get e1
  have hq : SqL K H a vs := .of (s2 _ _ (s1 _ _ h))
  refine ⟨⟨vs, v, hq, h1⟩, fun y H' yy => ?_⟩
  obtain ⟨T, z, rfl, n, rfl, yy⟩ := yy
  have := yy vs hq
  rw [h1] at this
  cases this
  exact pair_new s2 n (.int _) (h2.mono s1)
theorem zipD_get {xs ys : List D} {i : Nat} {d : D} (e : (zipD xs ys)[i]? = some d) : ∃ x y, xs[i]? = some x ∧ ys[i]? = some y ∧ d = .tup [x, y] := by
  unfold zipD at e
  rw [List.getElem?_map] at e
  obtain ⟨⟨x, y⟩, e1, rfl⟩ := Option.map_eq_some_iff.mp e
  obtain ⟨h1, h2⟩ := List.getElem?_zip_eq_some.mp e1
  exact ⟨x, y, h1, h2, rfl⟩
theorem zipD_len (xs ys : List D) : (zipD xs ys).length = min xs.length ys.length := by unfold zipD; rw [List.length_map, List.length_zip]
theorem itz_ok {K : PySem.W.Frag} {F1 : Hp} {a b : Addr} {vs ws : List V} {xs ys : List D} (h : F1 a = some (.lst vs)) (h' : F1 b = some (.lst ws)) (r : RepL K F1 vs xs) (r' : RepL K F1 ws ys) : ItOk K F1 (Itz K a b) (zipD xs ys) := by
  refine ⟨fun F H i d s1 s2 e => ?_, fun F H s1 s2 => ⟨vs, ws, .of (s2 _ _ (s1 _ _ h)), .of (s2 _ _ (s1 _ _ h')), by rw [r.length, r'.length, zipD_len]; omega⟩⟩
  obtain ⟨x, y, e1, e2, rfl⟩ := zipD_get e
  obtain ⟨v, h1, h2⟩ := r.get e1
  obtain ⟨w, g1, g2⟩ := r'.get e2
  have hq : SqL K H a vs := .of (s2 _ _ (s1 _ _ h))
  have hq' : SqL K H b ws := .of (s2 _ _ (s1 _ _ h'))
  refine ⟨⟨vs, ws, v, w, hq, hq', h1, g1⟩, fun y H' yy => ?_⟩
  obtain ⟨T, z, z', rfl, n, rfl, yy, yy'⟩ := yy
  have e1 := yy vs hq
  rw [h1] at e1
  cases e1
  have e2 := yy' ws hq'
  rw [g1] at e2
  cases e2
  exact pair_new s2 n (h2.mono s1) (g2.mono s1)
theorem itzT_ok {K : PySem.W.Frag} {F1 : Hp} {a b : Addr} {vs ws : List V} {xs ys : List D} (h : F1 a = some (.tup vs)) (h' : F1 b = some (.tup ws)) (r : RepL K F1 vs xs) (r' : RepL K F1 ws ys) : ItOk K F1 (RZ.ItzT K a b) (zipD xs ys) := by
  refine ⟨fun F H i d s1 s2 e => ?_, fun F H s1 s2 => ⟨vs, ws, .of (s2 _ _ (s1 _ _ h)), .of (s2 _ _ (s1 _ _ h')), by rw [r.length, r'.length, zipD_len]; omega⟩⟩
  obtain ⟨x, y, e1, e2, rfl⟩ := zipD_get e
  obtain ⟨v, h1, h2⟩ := r.get e1
  obtain ⟨w, g1, g2⟩ := r'.get e2
  have hq : SqT K H a vs := .of (s2 _ _ (s1 _ _ h))
  have hq' : SqT K H b ws := .of (s2 _ _ (s1 _ _ h'))
  refine ⟨⟨vs, ws, v, w, hq, hq', h1, g1⟩, fun y H' yy => ?_⟩
  obtain ⟨T, z, z', rfl, n, rfl, yy, yy'⟩ := yy
  have e1 := yy vs hq
  rw [h1] at e1
  cases e1
  have e2 := yy' ws hq'
  rw [g1] at e2
  cases e2
  exact pair_new s2 n (h2.mono s1) (g2.mono s1)
/-- two lists, two tuples -/
def zipIn : D → D → Option (List D)
  | .lst xs, .lst ys => some (zipD xs ys)
  | .tup xs, .tup ys => some (zipD xs ys)
  | _, _ => none
def mZipA (a b : ME) : ML := fun Γ => (a Γ).bind fun x => (b Γ).bind fun y => zipIn x y
theorem i_zip (hg : Gl X "zip") (hm : X.mg "zip" = none) (ha : PE X e (rdE X.K ma)) (hb : PE X e2 (rdE X.K mb)) (hs : starEach [e, e2] X.env = (false, eval e X.env) :: starEach [e2] X.env := by rfl)
    (hs2 : starEach [e2] X.env = (false, eval e2 X.env) :: starEach [] X.env := by rfl) (hpl : ∀ p, (backTo p (starEach [e2] X.env)).any (·.1) = false := by intro _; rfl) :
    PI X (.Tuple elts kk tpos) (.Call (.Name "zip" p) [e, e2] [] pos) (rdI X.K (mZipA ma mb)) :=
  PI_wk (RZ.pi_zipA hg hm (r_pcons ha (r_pcons hb r_pnil hs2) hs) hs (hpl _)) fun σ H R ⟨H0, F, Γ, xs, R0, z, q⟩ => by
    obtain ⟨x, e1, z⟩ := Option.bind_eq_some_iff.mp z
    obtain ⟨y, e2, z⟩ := Option.bind_eq_some_iff.mp z
    refine ⟨H0, F, Γ, [x, y], R0, by simp only [mCons, mNil, e1, e2, Option.bind_some], fun vs H' F' E r => ?_⟩
    cases r with
    | cons r1 r =>
      cases r with
      | cons r2 r =>
        cases r
        unfold zipIn at z
        split at z
        · cases z
          obtain ⟨a, us, rfl, h1, q1⟩ := r1.lstI
          obtain ⟨b, ws, rfl, h2, q2⟩ := r2.lstI
          exact ⟨a, b, us, ws, rfl, .inl ⟨.of (E.fh _ _ h1), .of (E.fh _ _ h2), q _ H' F' E (itz_ok h1 h2 q1 q2)⟩⟩
        · cases z
          obtain ⟨a, us, rfl, h1, q1⟩ := r1.tupI
          obtain ⟨b, ws, rfl, h2, q2⟩ := r2.tupI
          exact ⟨a, b, us, ws, rfl, .inr ⟨.of (E.fh _ _ h1), .of (E.fh _ _ h2), q _ H' F' E (itzT_ok h1 h2 q1 q2)⟩⟩
        · cases z
/-- enumerate of a list -/
def lstIn : D → Option (List D)
  | .lst xs => some (enumD xs)
  | _ => none
def mEnumL (a : ME) : ML := fun Γ => (a Γ).bind lstIn
theorem i_enumL (hg : Gl X "enumerate") (hm : X.mg "enumerate" = none) (ha : PE X e (rdE X.K ma)) (hs2 : starEach [e] X.env = (false, eval e X.env) :: starEach [] X.env := by rfl) : PI X (.Tuple elts kk tpos) (.Call (.Name "enumerate" p) [e] [] pos) (rdI X.K (mEnumL ma)) :=
  PI_wk (pi_enum hg hm (r_pcons ha r_pnil hs2) hs2) fun σ H R ⟨H0, F, Γ, xs, R0, z, q⟩ => by
    obtain ⟨x, e1, z⟩ := Option.bind_eq_some_iff.mp z
    refine ⟨H0, F, Γ, [x], R0, by simp only [mCons, mNil, e1, Option.bind_some], fun vs H' F' E r => ?_⟩
    cases r with
    | cons r1 r =>
      cases r
      unfold lstIn at z
      split at z
      · cases z
        obtain ⟨a, us, rfl, h1, q1⟩ := r1.lstI
        exact ⟨a, us, rfl, .of (E.fh _ _ h1), q _ H' F' E (ite_ok h1 q1)⟩
      · cases z
end
end SK

set_option Elab.async false
set_option linter.all false
set_option maxRecDepth 100000
set_option maxHeartbeats 4000000
set_option autoImplicit false
namespace SK
open PySem PySem.Spec PyProof.Rows L2
section
variable {P : Program} {w : World} {K : PySem.W.Frag} {mg : Str → Option Value} {base : Heap}
theorem never_ok {k : Nat} {f : Addr} {fd : FuncData} {ps : List Str} : FnOk P w K mg base CX0 k f fd ps (spF K fun _ => none) :=
  ⟨fun vs H Q E ⟨F, ds, d, _, _, e, _⟩ => (by cases e), fun A outer s H args us vs Q E _ _ _ _ h => by
    obtain ⟨F, ds, d, _, _, e, _⟩ := h
    cases e⟩
def dAddI := fI fun i j => some (.int (i + j))
theorem d_addI : Op2 K dAddI (rI0 fun i j => .int (i + j)) := op2I0 fun _ _ _ h => some_eq h
end
/-! a new list that is never changed -/
def sSetF (i : Nat) (m : ME) : MS := fun Γ => (m Γ).map fun d => (.nx, Γ.set i (.val d))
theorem frz1_set (i : Nat) (Γ : En) (d : D) : frz1 i (Γ.set i (.own d)) = Γ.set i (.val d) := by
  unfold frz1
  by_cases h : i < Γ.length
  · rw [get_set h]
    show (Γ.set i (.own d)).set i (.val d) = _
    rw [List.set_set]
  · rw [List.set_eq_of_length_le (Nat.le_of_not_lt h), List.set_eq_of_length_le (Nat.le_of_not_lt h), List.getElem?_eq_none (Nat.le_of_not_lt h)]
section
variable {X : Cx} {H0 : Hp} {st : Stmt} {m : ME} {i : Nat}
theorem s_setF (h : PS X st (rdS X.K H0 (sSet i (xO m)))) : PS X st (rdS X.K H0 (sSetF i m)) :=
  PS_wk h fun D0 σ H ⟨F, Γ, fl, Γ', R, z, q⟩ => by
    obtain ⟨d, e1, z⟩ := Option.map_eq_some_iff.mp z
    cases z
    refine ⟨F, Γ, .nx, Γ.set i (.own d), R, by unfold sSet xO; rw [e1]; rfl, fun σ1 H1 F1 G1 R1 => ?_⟩
    obtain ⟨F2, s2, n2, R2⟩ := R1.freeze i
    rw [frz1_set] at R2
    exact q σ1 H1 F2 (G1.trans ⟨s2, n2⟩) R2
end
/-! two clauses -/
section
variable {X : Cx} {tg elt iter tg1 iter1 c : Expr} {ifs ifs1 : List Expr} {scope : Scope} {own : List (Str × Nat)} {pos : Pos} {ml ml1 : ML} {g g1 : MG} {mt mt1 : MT} {me : ME} {ws ws1 vs1 : List Nat}
theorem r_lc2 (hc : X.calm = true) (hN : X.N.Nodup) (hi : PI X tg iter (rdI X.K ml)) (ok : BlkOk X.N X.env.scope scope own) (hv : ∀ i ∈ vs1, i ∈ own.map (·.2))
    (hg : ∀ (s : Shared) (H : Hp) (C : Addr) (cl : List (Str × Addr)) (fp : List Addr), PG (X.blk s H scope (compEnvC scope cl C X.env) fp) tg (rdG X.K ws g)) (ht : ∀ (s : Shared) (H : Hp) (C : Addr) (cl : List (Str × Addr)) (fp : List Addr), PTs (X.blk s H scope (compEnvC scope cl C X.env) fp) ifs (rdT X.K mt))
    (hi1 : ∀ (s : Shared) (H : Hp) (C : Addr) (cl : List (Str × Addr)) (fp : List Addr), PI (X.blk s H scope (compEnvC scope cl C X.env) fp) tg1 iter1 (rdI X.K ml1))
    (hg1 : ∀ (s : Shared) (H : Hp) (C : Addr) (cl : List (Str × Addr)) (fp : List Addr), PG (X.blk s H scope (compEnvC scope cl C X.env) fp) tg1 (rdG X.K ws1 g1)) (ht1 : ∀ (s : Shared) (H : Hp) (C : Addr) (cl : List (Str × Addr)) (fp : List Addr), PTs (X.blk s H scope (compEnvC scope cl C X.env) fp) ifs1 (rdT X.K mt1))
    (he : ∀ (s : Shared) (H : Hp) (C : Addr) (cl : List (Str × Addr)) (fp : List Addr), PE (X.blk s H scope (compEnvC scope cl C X.env) fp) elt (rdE X.K me)) (hw : ∀ i ∈ ws, i ∈ own.map (·.2) := by decide) (hw1 : ∀ i ∈ ws1, i ∈ vs1 := by decide)
    (hs : ∀ x, foldedSetIterable iter X.env x = pure x := by intro _; rfl) (hs1 : ∀ env x, foldedSetIterable iter1 env x = pure x := by intro _ _; rfl) :
    PE X (.ListComp elt [⟨tg, iter, ifs, 0⟩, ⟨tg1, iter1, ifs1, 0⟩] scope pos) (rdN X.K (mLc2 ml g mt ml1 g1 mt1 me (own.map (·.2)) vs1)) :=
  PE.wk (pe_lc2 hc hN hi ok hv hg ht hi1 hg1 ht1 he hs hs1) fun _ _ _ h => lc2_of hw hw1 h
theorem s_setLc2 (i : Nat) {H0 : Hp} {y : Str} {py spos : Pos} (hc : X.calm = true) (hN : X.N.Nodup) (hi : PI X tg iter (rdI X.K ml)) (ok : BlkOk X.N X.env.scope scope own) (hv : ∀ i ∈ vs1, i ∈ own.map (·.2))
    (hg : ∀ (s : Shared) (H : Hp) (C : Addr) (cl : List (Str × Addr)) (fp : List Addr), PG (X.blk s H scope (compEnvC scope cl C X.env) fp) tg (rdG X.K ws g)) (ht : ∀ (s : Shared) (H : Hp) (C : Addr) (cl : List (Str × Addr)) (fp : List Addr), PTs (X.blk s H scope (compEnvC scope cl C X.env) fp) ifs (rdT X.K mt))
    (hi1 : ∀ (s : Shared) (H : Hp) (C : Addr) (cl : List (Str × Addr)) (fp : List Addr), PI (X.blk s H scope (compEnvC scope cl C X.env) fp) tg1 iter1 (rdI X.K ml1))
    (hg1 : ∀ (s : Shared) (H : Hp) (C : Addr) (cl : List (Str × Addr)) (fp : List Addr), PG (X.blk s H scope (compEnvC scope cl C X.env) fp) tg1 (rdG X.K ws1 g1)) (ht1 : ∀ (s : Shared) (H : Hp) (C : Addr) (cl : List (Str × Addr)) (fp : List Addr), PTs (X.blk s H scope (compEnvC scope cl C X.env) fp) ifs1 (rdT X.K mt1))
    (he : ∀ (s : Shared) (H : Hp) (C : Addr) (cl : List (Str × Addr)) (fp : List Addr), PE (X.blk s H scope (compEnvC scope cl C X.env) fp) elt (rdE X.K me))
    (hsw : swapsWith (.ListComp elt [⟨tg, iter, ifs, 0⟩, ⟨tg1, iter1, ifs1, 0⟩] scope pos) (some (.Name y py)) spos.line X.env = pure true) (hy : X.N[i]? = some y := by rfl) (hyl : X.env.scope.names.lookup y = some .local := by rfl) (hw : ∀ i ∈ ws, i ∈ own.map (·.2) := by decide) (hw1 : ∀ i ∈ ws1, i ∈ vs1 := by decide)
    (hs : ∀ x, foldedSetIterable iter X.env x = pure x := by intro _; rfl) (hs1 : ∀ env x, foldedSetIterable iter1 env x = pure x := by intro _ _; rfl) :
    PS X (.Assign [.Name y py] (.ListComp elt [⟨tg, iter, ifs, 0⟩, ⟨tg1, iter1, ifs1, 0⟩] scope pos) spos) (rdS X.K H0 (sSet i (xO (mLc2 ml g mt ml1 g1 mt1 me (own.map (·.2)) vs1)))) :=
  PS_wk (ps_setLc2 hc hN hy hyl hsw hi ok hv hg ht hi1 hg1 ht1 he hs hs1) fun _ _ _ h => set_of (fun _ _ _ h => lc2_of hw hw1 h) h
end
/-! a, b, c = x, y, z -/
def sPar3 (i j l : Nat) (a b c : MX) : MS := fun Γ => (a Γ).bind fun s => (b Γ).bind fun t => (c Γ).map fun u => (.nx, ((Γ.set i s).set j t).set l u)
section
variable {X : Cx} {H0 : Hp} {a b c : Expr} {pos : Pos} {mx my mz : MX}
theorem s_par3 (i j l : Nat) {x y z : Str} {px py pz pt : Pos} {kt k2 pt2} (hc : X.calm = true) (hN : X.N.Nodup) (ha : PE X a (rdX X.K mx)) (hb : PE X b (rdX X.K my)) (hc' : PE X c (rdX X.K mz))
    (hw : swappedStores [.Tuple [.Name x px, .Name y py, .Name z pz] kt pt] (.Tuple [a, b, c] k2 pt2) X.env = pure (some [x, y, z])) (hi : X.N[i]? = some x := by rfl) (hj : X.N[j]? = some y := by rfl) (hl : X.N[l]? = some z := by rfl) (hij : i ≠ j := by decide) (hil : i ≠ l := by decide) (hjl : j ≠ l := by decide)
    (hx : X.env.scope.names.lookup x = some .local := by rfl) (hy : X.env.scope.names.lookup y = some .local := by rfl) (hz : X.env.scope.names.lookup z = some .local := by rfl)
    (hs : swapsWithSole [.Tuple [.Name x px, .Name y py, .Name z pz] kt pt] (.Tuple [a, b, c] k2 pt2) pos.line X.env = pure false := by rfl) (na : starEach [a, b, c] X.env = (false, eval a X.env) :: starEach [b, c] X.env := by rfl)
    (nb : starEach [b, c] X.env = (false, eval b X.env) :: starEach [c] X.env := by rfl) (nc : starEach [c] X.env = (false, eval c X.env) :: starEach [] X.env := by rfl) :
    PS X (.Assign [.Tuple [.Name x px, .Name y py, .Name z pz] kt pt] (.Tuple [a, b, c] k2 pt2) pos) (rdS X.K H0 (sPar3 i j l mx my mz)) :=
  PS_wk (ps_par3 hc hN hi hj hl hij hil hjl hx hy hz (pa_cons ha (pa_cons hb (pa_cons hc' pa_nil nc) nb) na) hw hs) fun D0 σ H ⟨F, Γ, fl, Γ', R, z, q⟩ => by
    obtain ⟨s, e1, z⟩ := Option.bind_eq_some_iff.mp z
    obtain ⟨t, e2, z⟩ := Option.bind_eq_some_iff.mp z
    obtain ⟨u, e3, z⟩ := Option.map_eq_some_iff.mp z
    cases z
    refine ⟨H0, F, Γ, s, R, e1, fun v H1 F1 E1 r1 => ⟨H0, F1, Γ, t, R.ext E1, e2, fun w H2 F2 E2 r2 => ⟨H0, F2, Γ, u, (R.ext E1).ext E2, e3, fun w' H3 F3 E3 r3 => ⟨v, w, w', rfl, ?_⟩⟩⟩⟩
    have h1 := R.h0.trans E1.h
    exact q _ H3 F3 (((Grow.ext R.h0 E1).trans (Grow.ext h1 E2)).trans (Grow.ext (h1.trans E2.h) E3)) (((R.setX E1 r1 i).setX E2 r2 j).setX E3 r3 l)
end
end SK

set_option Elab.async false
set_option linter.all false
set_option maxRecDepth 100000
set_option maxHeartbeats 4000000
set_option autoImplicit false
namespace SK
open PySem PySem.Spec PyProof.Rows L2

/-! ### two readings of one expression -/
section
variable {X : Cx} {e : Expr}
theorem PE_or {t1 t2 : TE} (h1 : PE X e t1) (h2 : PE X e t2) : PE X e (fun σ H Q => t1 σ H Q ∨ t2 σ H Q) := ⟨fun pins s σ H Q I h => by
  rcases h with h | h
  · exact h1.run pins s σ H Q I h
  · exact h2.run pins s σ H Q I h⟩
end
/-! ### sorted -/
def insI (x : Int) : List Int → List Int
  | [] => [x]
  | y :: ys => if x ≤ y then x :: y :: ys else y :: insI x ys
def sortI : List Int → List Int
  | [] => []
  | x :: xs => insI x (sortI xs)
theorem insI_perm (x : Int) : ∀ ys : List Int, (insI x ys).Perm (x :: ys)
  | [] => .refl _
  | y :: ys => by
    unfold insI
    split
    · exact .refl _
    · exact ((insI_perm x ys).cons y).trans (.swap x y ys)
theorem sortI_perm : ∀ xs : List Int, (sortI xs).Perm xs
  | [] => .refl _
  | x :: xs => (insI_perm x _).trans ((sortI_perm xs).cons x)
theorem insI_sorted (x : Int) : ∀ ys : List Int, ys.Pairwise (· ≤ ·) → (insI x ys).Pairwise (· ≤ ·)
  | [], _ => List.pairwise_singleton _ _
  | y :: ys, h => by
    unfold insI
    obtain ⟨h1, h2⟩ := List.pairwise_cons.mp h
    split
    · rename_i c
      exact List.pairwise_cons.mpr ⟨fun z hz => by
        rcases List.mem_cons.mp hz with rfl | hz
        · exact c
        · exact Int.le_trans c (h1 z hz), h⟩
    · rename_i c
      refine List.pairwise_cons.mpr ⟨fun z hz => ?_, insI_sorted x ys h2⟩
      rcases List.mem_cons.mp ((insI_perm x ys).mem_iff.mp hz) with rfl | hz
      · exact Int.le_of_lt (Int.not_le.mp c)
      · exact h1 z hz
theorem sortI_sorted : ∀ xs : List Int, (sortI xs).Pairwise (· ≤ ·)
  | [] => .nil
  | x :: xs => insI_sorted x _ (sortI_sorted xs)
theorem perm_sorted_eq {α : Type} {r : α → α → Prop} (anti : ∀ a b, r a b → r b a → a = b) : ∀ {xs ys : List α}, xs.Perm ys → xs.Pairwise r → ys.Pairwise r → xs = ys
  | [], ys, p, _, _ => by rw [List.nil_perm.mp p]
  | x :: xs, [], p, _, _ => absurd (List.perm_nil.mp p) (List.cons_ne_nil _ _)
  | x :: xs, y :: ys, p, hx, hy => by
    obtain ⟨x1, x2⟩ := List.pairwise_cons.mp hx
    obtain ⟨y1, y2⟩ := List.pairwise_cons.mp hy
    have e : x = y := by
      rcases List.mem_cons.mp (p.mem_iff.mp List.mem_cons_self) with e | mx
      · exact e
      · rcases List.mem_cons.mp (p.mem_iff.mpr List.mem_cons_self) with e | my
        · exact e.symm
        · exact anti _ _ (x1 y my) (y1 x mx)
    subst e
    rw [perm_sorted_eq anti ((List.perm_cons x).mp p) x2 y2]
theorem sortI_eq {xs ys : List Int} (p : ys.Perm xs) (s : ys.Pairwise (· ≤ ·)) : ys = sortI xs :=
  perm_sorted_eq (fun _ _ => Int.le_antisymm) (p.trans (sortI_perm xs).symm) s (sortI_sorted xs)
/-! pairs of ints -/
abbrev leP (p q : Int × Int) : Prop := SrtO.lexB q p = false
def insP (x : Int × Int) : List (Int × Int) → List (Int × Int)
  | [] => [x]
  | y :: ys => if SrtO.lexB y x then y :: insP x ys else x :: y :: ys
def sortP : List (Int × Int) → List (Int × Int)
  | [] => []
  | x :: xs => insP x (sortP xs)
theorem leP_anti {p q : Int × Int} (h : leP p q) (k : leP q p) : p = q := by
  have a := SrtO.lexB_no.mp h
  have b := SrtO.lexB_no.mp k
  cases p; cases q
  simp only at a b
  rw [Prod.mk.injEq]
  omega
theorem leP_trans {p q r : Int × Int} (h : leP p q) (k : leP q r) : leP p r := by
  have a := SrtO.lexB_no.mp h
  have b := SrtO.lexB_no.mp k
  refine SrtO.lexB_no.mpr ?_
  omega
theorem leP_of {p q : Int × Int} (h : SrtO.lexB p q = true) : leP p q := by
  have a := SrtO.lexB_iff.mp h
  refine SrtO.lexB_no.mpr ?_
  omega
theorem insP_perm (x : Int × Int) : ∀ ys : List (Int × Int), (insP x ys).Perm (x :: ys)
  | [] => .refl _
  | y :: ys => by
    unfold insP
    split
    · exact ((insP_perm x ys).cons y).trans (.swap x y ys)
    · exact .refl _
theorem sortP_perm : ∀ xs : List (Int × Int), (sortP xs).Perm xs
  | [] => .refl _
  | x :: xs => (insP_perm x _).trans ((sortP_perm xs).cons x)
theorem insP_sorted (x : Int × Int) : ∀ ys : List (Int × Int), ys.Pairwise leP → (insP x ys).Pairwise leP
  | [], _ => List.pairwise_singleton _ _
  | y :: ys, h => by
    unfold insP
    obtain ⟨h1, h2⟩ := List.pairwise_cons.mp h
    split
    · rename_i c
      refine List.pairwise_cons.mpr ⟨fun z hz => ?_, insP_sorted x ys h2⟩
      rcases List.mem_cons.mp ((insP_perm x ys).mem_iff.mp hz) with rfl | hz
      · exact leP_of c
      · exact h1 z hz
    · rename_i c
      have c' : leP x y := Bool.eq_false_iff.mpr c
      exact List.pairwise_cons.mpr ⟨fun z hz => by
        rcases List.mem_cons.mp hz with rfl | hz
        · exact c'
        · exact leP_trans c' (h1 z hz), h⟩
theorem sortP_sorted : ∀ xs : List (Int × Int), (sortP xs).Pairwise leP
  | [] => .nil
  | x :: xs => insP_sorted x _ (sortP_sorted xs)
theorem sortP_eq {xs ys : List (Int × Int)} (p : ys.Perm xs) (s : ys.Pairwise leP) : ys = sortP xs :=
  perm_sorted_eq (fun _ _ => leP_anti) (p.trans (sortP_perm xs).symm) s (sortP_sorted xs)
def pairD (p : Int × Int) : D := .tup [.int p.1, .int p.2]
def pairOf : D → Option (Int × Int)
  | .tup [.int i, .int j] => some (i, j)
  | _ => none
def pairsOf : List D → Option (List (Int × Int))
  | [] => some []
  | d :: r => (pairOf d).bind fun p => (pairsOf r).map (p :: ·)
theorem pairOf_some {d : D} {p : Int × Int} (h : pairOf d = some p) : d = pairD p := by
  unfold pairOf at h
  split at h
  · cases h; rfl
  · cases h
theorem pairsOf_some : ∀ {ds : List D} {ps : List (Int × Int)}, pairsOf ds = some ps → ds = ps.map pairD
  | [], _, h => by cases h; rfl
  | d :: r, _, h => by
    obtain ⟨p, e, h⟩ := Option.bind_eq_some_iff.mp h
    obtain ⟨qs, e2, rfl⟩ := Option.map_eq_some_iff.mp h
    rw [pairOf_some e, pairsOf_some e2]; rfl
theorem pairsOf_map : ∀ ps : List (Int × Int), pairsOf (ps.map pairD) = some ps
  | [] => rfl
  | p :: ps => by
    show (some p).bind (fun p => (pairsOf (ps.map pairD)).map (p :: ·)) = _
    rw [pairsOf_map ps]; rfl
def dSorted : List D → Option D
  | [.lst xs] => match intsOf xs with
    | some ns => some (.lst ((sortI ns).map .int))
    | none => (pairsOf xs).map fun ps => .lst ((sortP ps).map pairD)
  | _ => none
def rSortedA (K : PySem.W.Frag) : List V → Hp → VK → Prop := fun vs H Q => rSortedI K vs H Q ∨ rSortedPO K vs H Q
section
variable {X : Cx} {K : PySem.W.Frag}
theorem op_sorted : CallR X (.builtin "sorted") (rSortedA X.K) := CallR.or cr_sortedI cr_sortedPO
/-- the pair that stands at a value -/
def keyP (F : Hp) : V → Int × Int
  | .ref t => match F t with
    | some (.tup [.int i, .int j]) => (i, j)
    | _ => (0, 0)
  | _ => (0, 0)
theorem keyP_rep {F : Hp} {v : V} {p : Int × Int} (r : Rep K F v (pairD p)) : keyP F v = p ∧ ∃ t, v = .ref t ∧ F t = some (.tup [.int p.1, .int p.2]) := by
  obtain ⟨a, vs, rfl, h, r⟩ := Rep.tupI r
  cases r with
  | cons r1 r =>
    cases r with
    | cons r2 r =>
      cases r
      rw [r1.intI, r2.intI] at h
      refine ⟨?_, a, rfl, h⟩
      unfold keyP
      simp only [h]
theorem rep_pairs {F : Hp} : ∀ {vs : List V} {ps : List (Int × Int)}, RepL K F vs (ps.map pairD) → vs.map (keyP F) = ps ∧ ∀ v ∈ vs, ∃ t, v = .ref t ∧ F t = some (.tup [.int (keyP F v).1, .int (keyP F v).2])
  | _, [], r => by cases r; exact ⟨rfl, fun _ h => absurd h (List.not_mem_nil)⟩
  | _, p :: ps, r => by
    cases r with
    | cons h r =>
      obtain ⟨k1, k2⟩ := keyP_rep h
      obtain ⟨i1, i2⟩ := rep_pairs r
      refine ⟨by rw [List.map_cons, k1, i1], fun v hv => ?_⟩
      rcases List.mem_cons.mp hv with rfl | hv
      · rw [k1]; exact k2
      · exact i2 v hv
theorem rep_pairs_of {F : Hp} : ∀ {vs : List V}, (∀ v ∈ vs, ∃ t, v = .ref t ∧ F t = some (.tup [.int (keyP F v).1, .int (keyP F v).2])) → RepL K F vs ((vs.map (keyP F)).map pairD)
  | [], _ => .nil
  | v :: vs, h => by
    obtain ⟨t, e, ht⟩ := h v List.mem_cons_self
    refine .cons ?_ (rep_pairs_of fun w hw => h w (List.mem_cons_of_mem _ hw))
    generalize keyP F v = p at ht ⊢
    subst e
    exact .ob ht (.tup (.cons (.int _) (.cons (.int _) .nil)))
theorem d_sorted : Fn1N K dSorted (rSortedA K) := by
  intro F H vs ds d Q s r e q
  unfold dSorted at e
  split at e
  · obtain ⟨v, rfl, rr⟩ := bl1 r
    obtain ⟨a, ws, rfl, h1, r1⟩ := rr.lst s
    split at e
    · rename_i ns e1
      cases e
      rw [ints_rep e1 r1] at h1
      refine .inl ⟨a, ns, rfl, .of h1, fun ns' p hp hs np => ?_⟩
      rw [sortI_eq hp hs]
      exact q p _ _ F (Ext.own s np) np (s.free np) upd_same rfl (.lst (rep_ints _))
    · obtain ⟨ps, e1, rfl⟩ := Option.map_eq_some_iff.mp e
      rw [pairsOf_some e1] at r1
      obtain ⟨k1, k2⟩ := rep_pairs r1
      refine .inr ⟨a, ws, keyP F, rfl, .of h1, fun x hx => ?_, fun ys p hs hb np => ?_⟩
      · obtain ⟨t, e, ht⟩ := k2 x hx
        exact ⟨t, e, s _ _ ht⟩
      · have e : ys.map (keyP F) = sortP ps := sortP_eq (by rw [← k1]; exact hb.perm.map _) (by
          rw [List.pairwise_map]
          exact hs.imp fun h => h)
        have rp := rep_pairs_of (K := K) (F := F) (vs := ys) fun v hv => k2 v (hb.perm.mem_iff.mp hv)
        rw [e] at rp
        exact q p _ _ F (Ext.own s np) np (s.free np) upd_same rfl (.lst rp)
  · cases e
end
/-! ### xs[::-1] -/
def dRev : D → Option D := dRevL
section
variable {X : Cx} {a : Expr} {ma : ME} {k : Nat} {p1 p2 p3 pos : Pos}
theorem r_rev (ha : PE X a (rdB X.K ma)) : PE X (.Subscript a (.Slice none none (some (.UnaryOp .USub (.Constant (.int 1) k p1) p2)) p3) pos) (rdE X.K (mUn dRev ma)) := ofN (r_revN ha)
end
end SK

set_option Elab.async false
set_option linter.all false
set_option maxRecDepth 100000
set_option maxHeartbeats 4000000
set_option autoImplicit false
namespace SK
open PySem PySem.Spec PyProof.Rows L2
/-- a def as the head tells it -/
theorem def_at {fa : List He.Fa} {fn : List He.FnD} {K : PySem.W.Frag} {h : Heap} {mg : Str → Option Value} (X : K.In h) (G : h.Ns mainGlobals mg) (c : He.SaysE fa fn K) (x : Str) (st : Stmt) (ps : List Str) (i j k : Nat)
    (h1 : fn[i]? = some ⟨(x, none), x, x, defArgs st, defBody st, defScope st⟩) (h2 : fa[j]? = some (.glo x)) (h3 : fa[k]? = some (.keep x))
    (hb : ∀ (kV doc pm : Value) (an : Option Addr) (cdv ct : Value) (us : List Value), us.length = ps.length → bindArgs (PySem.W.fnOf x x (defArgs st) (defBody st) (defScope st) .none kV doc pm an cdv ct) ⟨us, []⟩ = pure (ps.zip us)) :
    ∃ (f : Addr) (fd : FuncData), Fun K x x st f fd ∧ mg x = some (.ref f) ∧ Binds K fd ps [] ∧ ∀ (s : Shared) (us : List Value), us.length = ps.length → BindsTo s fd ⟨us, []⟩ (ps.zip us) := by
  obtain ⟨oc, od, osl, kV, doc, pm, an, cdv, ct, l, cd⟩ := c.def_ i h1
  have F := fun_mk (x := x) (qual := x) (st := st) l cd (He.keep_ok (c.fact k h3))
  exact ⟨_, _, F, He.glo_ok X G (c.fact j h2), F.binds hb, fun s us hl => .of_eq (hb _ _ _ _ _ _ us hl)⟩
theorem free_at {fa : List He.Fa} {fn : List He.FnD} {K : PySem.W.Frag} {h : Heap} {mg : Str → Option Value} (X : K.In h) (G : h.Ns mainGlobals mg) (c : He.SaysE fa fn K) (x : Str) (j : Nat) (h2 : fa[j]? = some (.free x)) : mg x = none :=
  He.free_ok X G (c.fact j h2)
theorem int_at {fa : List He.Fa} {fn : List He.FnD} {K : PySem.W.Frag} {h : Heap} {mg : Str → Option Value} (X : K.In h) (G : h.Ns mainGlobals mg) (c : He.SaysE fa fn K) (x : Str) (i : Int) (j : Nat) (h2 : fa[j]? = some (.int x i)) : ∃ t, mg x = some (.int i t) :=
  He.int_ok X G (c.fact j h2)
end SK

set_option Elab.async false
set_option linter.all false
set_option maxRecDepth 100000
set_option autoImplicit false
namespace SK
open PySem PySem.Spec PyProof.Rows L2
/-! the defs that every law has -/
def b__law_mixed : MS :=
  (sSq (sSet 2 (xV (mC (.int 0)))) (sSq (sIf (mTB (mBin dGt (mCall dLen (mCons (mVarB 0) mNil)) (mC (.int 0)))) (sSet 2 (xV (mBin dIx (mVarB 0) (mBin dMod (mVarB 1) (mCall dLen (mCons (mVarB 0) mNil)))))) sNx) (sSq (sSet 3 (xV (mBin dMod (mCall dInt1 (mCons (mBin dAdd (mBin dAdd (mBin dMulI (mVarB 2) (mC (.int 48271))) (mBin dMulI (mVarB 1) (mC (.int 69621)))) (mC (.int 8191))) mNil)) (mC (.int 2147483647))))) (sSq (sSet 4 (xV (mBin dMod (mCall dInt1 (mCons (mBin dAdd (mBin dAdd (mBin dMulI (mVarB 3) (mVarB 3)) (mBin dDiv (mVarB 3) (mC (.int 7)))) (mBin dMulI (mVarB 1) (mC (.int 16807)))) mNil)) (mC (.int 2147483629))))) (sSq (sSet 5 (xV (mBin dMod (mCall dInt1 (mCons (mBin dAdd (mBin dAdd (mBin dMulI (mVarB 4) (mVarB 4)) (mBin dDiv (mVarB 4) (mC (.int 11)))) (mC (.int 40692))) mNil)) (mC (.int 2147483563))))) (sRt (mBin dMod (mBin dDiv (mVarB 5) (mC (.int 5))) (mC (.int 1000003)))))))))
def m__law_mixed : List D → Option D := runFn 2 6 b__law_mixed
def b__law_row : MS :=
  (sSq (sSet 2 (xV (mC (.int 0)))) (sSq (sIf (mtAnd (mTB (mBin dGt (mCall dLen (mCons (mVarB 0) mNil)) (mC (.int 0)))) (mTB (mBin dGe (mBin dIx (mVarB 0) (mC (.int 0))) (mBin dPow (mC (.int 10)) (mC (.int 18)))))) (sSet 2 (xV (mBin dIx (mVarB 0) (mC (.int 0))))) sNx) (sSq (sSet 3 (xO (mLst mNil))) (sSq (sFor (mRng1 (mVarB 1)) (gN 4) (sIf (mTB (mBin dGt (mVarB 2) (mC (.int 0)))) (sSq (sApp 3 (mBin dMod (mCall dInt1 (mCons (mVarB 2) mNil)) (mC (.int 1000)))) (sSet 2 (xV (mBin dDiv (mVarB 2) (mC (.int 1000)))))) (sApp 3 (mCall m__law_mixed (mCons (mVar 0) (mCons (mVar 4) mNil)))))) (sFrz 3 (sRt (mVar 3)))))))
def m__law_row : List D → Option D := runFn 2 5 b__law_row
def b__law_is_int : MS :=
  (sRt (mAnd (mUn (dIsi .int) (mVarB 0)) (mNot (mUn (dIsi .bool) (mVarB 0)))))
def m__law_is_int : List D → Option D := runFn 1 1 b__law_is_int
def b__law_like (r : List D → Option D) : MS :=
  (sSq (sIf (mTB (mBin dIs (mVarB 1) (mC .non))) (sRt (mBin dIs (mVarB 0) (mC .non))) sNx) (sSq (sIf (mTru (mUn (dIsi .bool) (mVarB 1))) (sRt (mAnd (mUn (dIsi .bool) (mVarB 0)) (mBin dEq (mVarB 0) (mVarB 1)))) sNx) (sSq (sIf (mTru (mUn (dIsi .tuple) (mVarB 1))) (sSq (sIf (mtOr (mtNot (mTru (mUn (dIsi .tuple) (mVarB 0)))) (mTB (mBin dNe (mCall dLen (mCons (mVarB 0) mNil)) (mCall dLen (mCons (mVarB 1) mNil))))) (sRt (mC (.bl false))) sNx) (sRt (mCall dAll (mCons (mLc (mRng1 (mCall dLen (mCons (mVarB 1) mNil))) (gN 2) mYes (mCall r (mCons (mBin dIx (mVarB 0) (mVarB 2)) (mCons (mBin dIx (mVarB 1) (mVarB 2)) mNil))) [2]) mNil)))) sNx) (sSq (sIf (mTru (mUn (dIsi .str) (mVarB 1))) (sRt (mAnd (mUn (dIsi .str) (mVarB 0)) (mBin dEq (mVarB 0) (mVarB 1)))) sNx) (sRt (mAnd (mCall m__law_is_int (mCons (mVar 0) mNil)) (mBin dEq (mVarB 0) (mVarB 1))))))))
def m__law_like : Nat → List D → Option D
  | 0 => fun _ => none
  | n + 1 => runFn 2 3 (b__law_like (m__law_like n))
end SK

set_option Elab.async false
set_option linter.all false
set_option maxRecDepth 100000
set_option maxHeartbeats 4000000
set_option autoImplicit false
namespace SK
open PySem PySem.Spec PyProof.Rows L2

/-! ### loops and comprehensions, by what a turn does -/
section
variable {g : MG} {b : MS} {x : D} {xs : List D} {Γ Γ1 : En}
theorem mFor_nx (h : (g x Γ).bind b = some (.nx, Γ1)) : mFor g b (x :: xs) Γ = mFor g b xs Γ1 := by
  obtain ⟨Γ2, e1, e2⟩ := Option.bind_eq_some_iff.mp h
  show (g x Γ).bind _ = _
  rw [e1]
  show (match b Γ2 with | some (.nx, Γ2) => mFor g b xs Γ2 | some (.ct, Γ2) => mFor g b xs Γ2 | some (.bk, Γ2) => some (.nx, Γ2) | r => r) = _
  rw [e2]
theorem mFor_ct (h : (g x Γ).bind b = some (.ct, Γ1)) : mFor g b (x :: xs) Γ = mFor g b xs Γ1 := by
  obtain ⟨Γ2, e1, e2⟩ := Option.bind_eq_some_iff.mp h
  show (g x Γ).bind _ = _
  rw [e1]
  show (match b Γ2 with | some (.nx, Γ2) => mFor g b xs Γ2 | some (.ct, Γ2) => mFor g b xs Γ2 | some (.bk, Γ2) => some (.nx, Γ2) | r => r) = _
  rw [e2]
theorem mFor_bk (h : (g x Γ).bind b = some (.bk, Γ1)) : mFor g b (x :: xs) Γ = some (.nx, Γ1) := by
  obtain ⟨Γ2, e1, e2⟩ := Option.bind_eq_some_iff.mp h
  show (g x Γ).bind _ = _
  rw [e1]
  show (match b Γ2 with | some (.nx, Γ2) => mFor g b xs Γ2 | some (.ct, Γ2) => mFor g b xs Γ2 | some (.bk, Γ2) => some (.nx, Γ2) | r => r) = _
  rw [e2]
theorem mFor_rt {d : D} (h : (g x Γ).bind b = some (.rt d, Γ1)) : mFor g b (x :: xs) Γ = some (.rt d, Γ1) := by
  obtain ⟨Γ2, e1, e2⟩ := Option.bind_eq_some_iff.mp h
  show (g x Γ).bind _ = _
  rw [e1]
  show (match b Γ2 with | some (.nx, Γ2) => mFor g b xs Γ2 | some (.ct, Γ2) => mFor g b xs Γ2 | some (.bk, Γ2) => some (.nx, Γ2) | r => r) = _
  rw [e2]
end
/-! ### one step at a time -/
section
variable {a b : MS} {Γ Γ1 : En} {c : MT} {i : Nat} {d : D}
theorem sSq_nx (h : a Γ = some (.nx, Γ1)) : sSq a b Γ = b Γ1 := by unfold sSq; rw [h]
theorem sSq_rt (h : a Γ = some (.rt d, Γ1)) : sSq a b Γ = some (.rt d, Γ1) := by unfold sSq; rw [h]
theorem sIf_t (h : c Γ = some true) : sIf c a b Γ = a Γ := by unfold sIf; rw [h]; rfl
theorem sIf_f (h : c Γ = some false) : sIf c a b Γ = b Γ := by unfold sIf; rw [h]; rfl
theorem sSet_v {m : ME} (h : m Γ = some d) : sSet i (xV m) Γ = some (.nx, Γ.set i (.val d)) := by unfold sSet xV; rw [h]; rfl
theorem sSet_o {m : ME} (h : m Γ = some d) : sSet i (xO m) Γ = some (.nx, Γ.set i (.own d)) := by unfold sSet xO; rw [h]; rfl
theorem sSetF_of {m : ME} (h : m Γ = some d) : sSetF i m Γ = some (.nx, Γ.set i (.val d)) := by unfold sSetF; rw [h]; rfl
theorem sRt_of {m : ME} (h : m Γ = some d) : sRt m Γ = some (.rt d, Γ) := by unfold sRt; rw [h]; rfl
theorem sFor_of {ml : ML} {g : MG} {xs : List D} (h : ml Γ = some xs) : sFor ml g b Γ = mFor g b xs Γ := by unfold sFor; rw [h]; rfl
theorem mBin_of {f : D → D → Option D} {ma mb : ME} {x y : D} (ha : ma Γ = some x) (hb : mb Γ = some y) : mBin f ma mb Γ = f x y := by unfold mBin; rw [ha, hb]; rfl
theorem mUn_of {f : D → Option D} {ma : ME} {x : D} (ha : ma Γ = some x) : mUn f ma Γ = f x := by unfold mUn; rw [ha]; rfl
theorem mCall_of {f : List D → Option D} {ms : MA} {xs : List D} (h : ms Γ = some xs) : mCall f ms Γ = f xs := by unfold mCall; rw [h]; rfl
theorem mCons_of {ma : ME} {ms : MA} {x : D} {xs : List D} (ha : ma Γ = some x) (h : ms Γ = some xs) : mCons ma ms Γ = some (x :: xs) := by unfold mCons; rw [ha, h]; rfl
theorem mTB_of {m : ME} {t : Bool} (h : m Γ = some (.bl t)) : mTB m Γ = some t := by unfold mTB; rw [h]; rfl
theorem mLc_of {ml : ML} {g : MG} {el : ME} {vs : List Nat} {xs ys : List D} (h : ml Γ = some xs) (h2 : mLcL g c el (wipeE Γ vs) xs = some ys) (hl : ys.length ≤ LIM) : mLc ml g c el vs Γ = some (.lst ys) := by
  unfold mLc
  rw [h, Option.bind_some, h2, Option.bind_some, if_pos hl]
theorem run_rt {np nn : Nat} {ds : List D} (hl : ds.length = np) (h : b (ds.map Slot.val ++ List.replicate (nn - np) Slot.emp) = some (.rt d, Γ1)) : runFn np nn b ds = some d := by
  unfold runFn
  rw [if_pos hl, h]
end
theorem add_tup {m n : ME} {Γ : En} {xs ys : List D} (h : m Γ = some (.tup xs)) (h2 : n Γ = some (.tup ys)) (hl : xs.length + ys.length ≤ LIM) : mBin dAdd m n Γ = some (.tup (xs ++ ys)) := (mBin_of h h2).trans (if_pos hl)
/-! a run told by its ends -/
section
variable {a b : MS} {Γ Γ1 : En} {c : MT} {i j l : Nat} {d e f : D} {m n o : ME} {r : Option Fl}
theorem run_q {np nn : Nat} {ds : List D} (hl : ds.length = np) (h : (b (ds.map Slot.val ++ List.replicate (nn - np) Slot.emp)).map Prod.fst = some (.rt d)) : runFn np nn b ds = some d := by
  obtain ⟨⟨fl, Γ1⟩, h1, h2⟩ := Option.map_eq_some_iff.mp h
  cases h2
  exact run_rt hl h1
theorem q_nx (h : a Γ = some (.nx, Γ1)) (k : (b Γ1).map Prod.fst = r) : (sSq a b Γ).map Prod.fst = r := by rw [sSq_nx h]; exact k
theorem q_set (h : m Γ = some d) (k : (b (Γ.set i (.val d))).map Prod.fst = r) : (sSq (sSet i (xV m)) b Γ).map Prod.fst = r := q_nx (sSet_v h) k
theorem q_setO (h : m Γ = some d) (k : (b (Γ.set i (.own d))).map Prod.fst = r) : (sSq (sSet i (xO m)) b Γ).map Prod.fst = r := q_nx (sSet_o h) k
theorem q_setF (h : m Γ = some d) (k : (b (Γ.set i (.val d))).map Prod.fst = r) : (sSq (sSetF i m) b Γ).map Prod.fst = r := q_nx (sSetF_of h) k
theorem q_skip (h : c Γ = some false) (k : (b Γ).map Prod.fst = r) : (sSq (sIf c a sNx) b Γ).map Prod.fst = r := q_nx ((sIf_f h).trans rfl) k
theorem q_par (h : m Γ = some d) (h2 : n Γ = some e) (k : (b ((Γ.set i (.val d)).set j (.val e))).map Prod.fst = r) : (sSq (sPar i j (xV m) (xV n)) b Γ).map Prod.fst = r := q_nx (by unfold sPar xV; rw [h, h2]; rfl) k
theorem q_ret (h : m Γ = some d) : (sRt m Γ).map Prod.fst = some (.rt d) := by rw [sRt_of h]; rfl
theorem ev1 {g : List D → Option D} (h : m Γ = some d) (h2 : g [d] = some e) : mCall g (mCons m mNil) Γ = some e := (mCall_of (mCons_of h rfl)).trans h2
theorem ev2 {g : List D → Option D} {d2 : D} (h : m Γ = some d) (h1 : n Γ = some d2) (h2 : g [d, d2] = some e) : mCall g (mCons m (mCons n mNil)) Γ = some e := (mCall_of (mCons_of h (mCons_of h1 rfl))).trans h2
theorem ev3 {g : List D → Option D} {d2 d3 : D} (h : m Γ = some d) (h1 : n Γ = some d2) (h3 : o Γ = some d3) (h2 : g [d, d2, d3] = some e) : mCall g (mCons m (mCons n (mCons o mNil))) Γ = some e := (mCall_of (mCons_of h (mCons_of h1 (mCons_of h3 rfl)))).trans h2
theorem not_t (h : m Γ = some (.bl true)) : mtNot (mTru m) Γ = some false := by unfold mtNot mTru; rw [h]; rfl
theorem tru_f {t : Bool} (h : m Γ = some (.bl t)) : mTru m Γ = some t := by unfold mTru; rw [h]; rfl
theorem or_f {c1 c2 : MT} (h1 : c1 Γ = some false) (h2 : c2 Γ = some false) : mtOr c1 c2 Γ = some false := by unfold mtOr; rw [h1]; exact h2
theorem isnot_f {t : Bool} (h : m Γ = some (.bl t)) : mTB (mBin dIsNot m (mC (.bl t))) Γ = some false := by
  unfold mTB mBin mC; rw [h]; cases t <;> rfl
end
/-- a loop that never leaves: S by the items behind -/
theorem for_inv {g : MG} {b : MS} (S : List D → En → Prop) (step : ∀ x xs Γ, S (x :: xs) Γ → ∃ Γ', (g x Γ).bind b = some (.nx, Γ') ∧ S xs Γ') : ∀ (xs : List D) (Γ : En), S xs Γ → ∃ Γ', mFor g b xs Γ = some (.nx, Γ') ∧ S [] Γ'
  | [], Γ, h => ⟨Γ, rfl, h⟩
  | x :: xs, Γ, h => by
    obtain ⟨Γ1, e, h1⟩ := step x xs Γ h
    obtain ⟨Γ2, e2, h2⟩ := for_inv S step xs Γ1 h1
    exact ⟨Γ2, by rw [mFor_nx e, e2], h2⟩
/-- a loop that folds: the state a stands at the slots as Em says -/
theorem for_fold {α β : Type} {g : MG} {b : MS} (en : β → D) (f : α → β → α) (Em : α → En → Prop) (step : ∀ a x Γ, Em a Γ → ∃ Γ', (g (en x) Γ).bind b = some (.nx, Γ') ∧ Em (f a x) Γ') : ∀ (xs : List β) (a : α) (Γ : En), Em a Γ → ∃ Γ', mFor g b (xs.map en) Γ = some (.nx, Γ') ∧ Em (xs.foldl f a) Γ'
  | [], a, Γ, h => ⟨Γ, rfl, h⟩
  | x :: xs, a, Γ, h => by
    obtain ⟨Γ1, e, h1⟩ := step a x Γ h
    obtain ⟨Γ2, e2, h2⟩ := for_fold en f Em step xs (f a x) Γ1 h1
    exact ⟨Γ2, by rw [List.map_cons, mFor_nx e, e2], h2⟩
theorem for_foldm {α β : Type} {g : MG} {b : MS} (en : β → D) (f : α → β → α) (Em : α → En → Prop) : ∀ (xs : List β) (step : ∀ a, ∀ x ∈ xs, ∀ Γ, Em a Γ → ∃ Γ', (g (en x) Γ).bind b = some (.nx, Γ') ∧ Em (f a x) Γ') (a : α) (Γ : En), Em a Γ → ∃ Γ', mFor g b (xs.map en) Γ = some (.nx, Γ') ∧ Em (xs.foldl f a) Γ'
  | [], _, a, Γ, h => ⟨Γ, rfl, h⟩
  | x :: xs, step, a, Γ, h => by
    obtain ⟨Γ1, e, h1⟩ := step a x List.mem_cons_self Γ h
    obtain ⟨Γ2, e2, h2⟩ := for_foldm en f Em xs (fun a y hy => step a y (List.mem_cons_of_mem _ hy)) (f a x) Γ1 h1
    exact ⟨Γ2, by rw [List.map_cons, mFor_nx e, e2], h2⟩
theorem lcL_map {β : Type} {g : MG} {c : MT} {el : ME} {Γ : En} (en : β → D) (f : β → D) : ∀ (xs : List β), (∀ x ∈ xs, ∃ Γ1, g (en x) Γ = some Γ1 ∧ c Γ1 = some true ∧ el Γ1 = some (f x)) → mLcL g c el Γ (xs.map en) = some (xs.map f)
  | [], _ => rfl
  | x :: xs, h => by
    obtain ⟨Γ1, e1, e2, e3⟩ := h x List.mem_cons_self
    have ih := lcL_map en f xs fun y hy => h y (List.mem_cons_of_mem _ hy)
    show (g (en x) Γ).bind _ = _
    rw [e1]
    show (c Γ1).bind _ = _
    rw [e2]
    show (el Γ1).bind _ = _
    rw [e3]
    show (mLcL g c el Γ (xs.map en)).map _ = _
    rw [ih]
    rfl
theorem lcL_filter {β : Type} {g : MG} {c : MT} {el : ME} {Γ : En} (en : β → D) (p : β → Bool) (f : β → D) : ∀ (xs : List β), (∀ x ∈ xs, ∃ Γ1, g (en x) Γ = some Γ1 ∧ c Γ1 = some (p x) ∧ (p x = true → el Γ1 = some (f x))) → mLcL g c el Γ (xs.map en) = some ((xs.filter p).map f)
  | [], _ => rfl
  | x :: xs, h => by
    obtain ⟨Γ1, e1, e2, e3⟩ := h x List.mem_cons_self
    have ih := lcL_filter en p f xs fun y hy => h y (List.mem_cons_of_mem _ hy)
    show (g (en x) Γ).bind _ = _
    rw [e1]
    show (c Γ1).bind _ = _
    rw [e2]
    cases hp : p x with
    | false =>
      rw [List.filter_cons_of_neg (by rw [hp]; exact Bool.false_ne_true)]
      exact ih
    | true =>
      rw [List.filter_cons_of_pos hp]
      show (el Γ1).bind _ = _
      rw [e3 hp]
      show (mLcL g c el Γ (xs.map en)).map _ = _
      rw [ih]
      rfl
theorem q_for {α β : Type} {g : MG} {b rest : MS} {Γ : En} {r : Option Fl} {ml : ML} (en : β → D) (f : α → β → α) (Em : α → En → Prop) (xs : List β) (a : α) (hi : ml Γ = some (xs.map en)) (h0 : Em a Γ)
    (step : ∀ a, ∀ x ∈ xs, ∀ Γ, Em a Γ → ∃ Γ', (g (en x) Γ).bind b = some (.nx, Γ') ∧ Em (f a x) Γ') (k : ∀ Γ', Em (xs.foldl f a) Γ' → (rest Γ').map Prod.fst = r) : (sSq (sFor ml g b) rest Γ).map Prod.fst = r := by
  obtain ⟨Γ', e, h⟩ := for_foldm en f Em xs step a Γ h0
  exact q_nx ((sFor_of hi).trans e) (k Γ' h)
theorem q_blk {a rest : MS} {Γ : En} {r : Option Fl} (Em : En → Prop) (h : ∃ Γ1, a Γ = some (.nx, Γ1) ∧ Em Γ1) (k : ∀ Γ1, Em Γ1 → (rest Γ1).map Prod.fst = r) : (sSq a rest Γ).map Prod.fst = r := by
  obtain ⟨Γ1, e, h1⟩ := h
  exact q_nx e (k Γ1 h1)
/-- a loop told by the items behind it -/
theorem for_pre {β : Type} {g : MG} {b : MS} (en : β → D) (S : List β → En → Prop) : ∀ (rest done : List β) (step : ∀ d1 x d2, done ++ rest = d1 ++ x :: d2 → ∀ Γ, S d1 Γ → ∃ Γ', (g (en x) Γ).bind b = some (.nx, Γ') ∧ S (d1 ++ [x]) Γ') (Γ : En), S done Γ → ∃ Γ', mFor g b (rest.map en) Γ = some (.nx, Γ') ∧ S (done ++ rest) Γ'
  | [], done, _, Γ, h => ⟨Γ, rfl, by rw [List.append_nil]; exact h⟩
  | x :: rest, done, step, Γ, h => by
    obtain ⟨Γ1, e, h1⟩ := step done x rest rfl Γ h
    obtain ⟨Γ2, e2, h2⟩ := for_pre en S rest (done ++ [x]) (fun d1 y d2 hy => step d1 y d2 (by rw [← hy, List.append_assoc]; rfl)) Γ1 h1
    exact ⟨Γ2, by rw [List.map_cons, mFor_nx e, e2], by rw [List.append_assoc] at h2; exact h2⟩
theorem pre_for {β : Type} {g : MG} {b : MS} {Γ : En} {ml : ML} (en : β → D) (S : List β → En → Prop) (xs : List β) (hi : ml Γ = some (xs.map en)) (h0 : S [] Γ)
    (step : ∀ d1 x d2, xs = d1 ++ x :: d2 → ∀ Γ, S d1 Γ → ∃ Γ', (g (en x) Γ).bind b = some (.nx, Γ') ∧ S (d1 ++ [x]) Γ') : ∃ Γ', sFor ml g b Γ = some (.nx, Γ') ∧ S xs Γ' := by
  obtain ⟨Γ', e, h⟩ := for_pre en S xs [] step Γ h0
  exact ⟨Γ', (sFor_of hi).trans e, h⟩
theorem q_pre {β : Type} {g : MG} {b rest : MS} {Γ : En} {r : Option Fl} {ml : ML} (en : β → D) (S : List β → En → Prop) (xs : List β) (hi : ml Γ = some (xs.map en)) (h0 : S [] Γ)
    (step : ∀ d1 x d2, xs = d1 ++ x :: d2 → ∀ Γ, S d1 Γ → ∃ Γ', (g (en x) Γ).bind b = some (.nx, Γ') ∧ S (d1 ++ [x]) Γ') (k : ∀ Γ', S xs Γ' → (rest Γ').map Prod.fst = r) : (sSq (sFor ml g b) rest Γ).map Prod.fst = r := by
  obtain ⟨Γ', e, h⟩ := pre_for en S xs hi h0 step
  exact q_nx e (k Γ' h)
theorem sApp_of {i : Nat} {m : ME} {Γ : En} {xs : List D} {d : D} (h : Γ[i]? = some (.own (.lst xs))) (hm : m Γ = some d) (hl : xs.length < LIM) : sApp i m Γ = some (.nx, Γ.set i (.own (.lst (xs ++ [d])))) := by
  unfold sApp ownL
  rw [h, hm]
  show (if xs.length < LIM then _ else _) = _
  rw [if_pos hl]
/-! a while that never leaves but by its test -/
def wh {α : Type} (t : α → Bool) (f : α → α) : Nat → α → α
  | 0, a => a
  | n + 1, a => if t a then wh t f n (f a) else a
theorem wh_run {α : Type} {c : MT} {b : MS} (t : α → Bool) (f : α → α) (Em : α → En → Prop) (P : α → Prop) (hc : ∀ a Γ, P a → Em a Γ → c Γ = some (t a)) (hb : ∀ a Γ, P a → Em a Γ → t a = true → P (f a) ∧ ∃ Γ', b Γ = some (.nx, Γ') ∧ Em (f a) Γ') : ∀ (N : Nat) (a : α) (Γ : En), P a → Em a Γ → t (wh t f N a) = false → ∃ Γ', mWh c b (N + 1) Γ = some (.nx, Γ') ∧ Em (wh t f N a) Γ' ∧ P (wh t f N a)
  | 0, a, Γ, p, h, e => ⟨Γ, by
    have e : t a = false := e
    show (c Γ).bind _ = _
    rw [hc a Γ p h, e]; rfl, h, p⟩
  | N + 1, a, Γ, p, h, e => by
    cases ht : t a with
    | false =>
      have w : wh t f (N + 1) a = a := by show (if t a then _ else a) = a; rw [ht]; rfl
      refine ⟨Γ, ?_, by rw [w]; exact h, by rw [w]; exact p⟩
      show (c Γ).bind _ = _
      rw [hc a Γ p h, ht]; rfl
    | true =>
      have w : wh t f (N + 1) a = wh t f N (f a) := by show (if t a then _ else a) = _; rw [ht]; rfl
      obtain ⟨p1, Γ1, e1, h1⟩ := hb a Γ p h ht
      rw [w] at e ⊢
      obtain ⟨Γ2, e2, h2⟩ := wh_run t f Em P hc hb N (f a) Γ1 p1 h1 e
      refine ⟨Γ2, ?_, h2⟩
      show (c Γ).bind _ = _
      rw [hc a Γ p h, ht]
      show (match b Γ with | some (.nx, Γ1) => mWh c b (N + 1) Γ1 | some (.ct, Γ1) => mWh c b (N + 1) Γ1 | some (.bk, Γ1) => some (.nx, Γ1) | r => r) = _
      rw [e1]
      exact e2
theorem wh_end {α : Type} {t : α → Bool} {f : α → α} {P : α → Prop} (m : α → Nat) (hp : ∀ a, P a → t a = true → P (f a) ∧ m (f a) < m a) : ∀ (N : Nat) (a : α), P a → m a ≤ N → t (wh t f N a) = false
  | 0, a, p, h => by
    show t a = false
    cases ht : t a with
    | false => rfl
    | true => have := (hp a p ht).2; omega
  | N + 1, a, p, h => by
    show t (if t a then wh t f N (f a) else a) = false
    cases ht : t a with
    | false => exact ht
    | true =>
      obtain ⟨p1, h1⟩ := hp a p ht
      exact wh_end m hp N (f a) p1 (by omega)
/-! a loop that may return -/
def findR {α β : Type} (f : α → β → α) (hit : α → β → Option D) : List β → α → D ⊕ α
  | [], a => .inr a
  | x :: xs, a => match hit a x with
    | some d => .inl d
    | none => findR f hit xs (f a x)
theorem for_find {α β : Type} {g : MG} {b : MS} (en : β → D) (f : α → β → α) (hit : α → β → Option D) (Em : α → En → Prop) : ∀ (xs : List β) (step : ∀ a, ∀ x ∈ xs, ∀ Γ, Em a Γ → (∀ d, hit a x = some d → ∃ Γ', (g (en x) Γ).bind b = some (.rt d, Γ')) ∧ (hit a x = none → ∃ Γ', (g (en x) Γ).bind b = some (.nx, Γ') ∧ Em (f a x) Γ')) (a : α) (Γ : En), Em a Γ → (∀ d, findR f hit xs a = .inl d → ∃ Γ', mFor g b (xs.map en) Γ = some (.rt d, Γ')) ∧ (∀ a', findR f hit xs a = .inr a' → ∃ Γ', mFor g b (xs.map en) Γ = some (.nx, Γ') ∧ Em a' Γ')
  | [], _, a, Γ, h => ⟨fun d e => (nomatch e), fun a' e => ⟨Γ, rfl, by cases e; exact h⟩⟩
  | x :: xs, step, a, Γ, h => by
    obtain ⟨s1, s2⟩ := step a x List.mem_cons_self Γ h
    cases hx : hit a x with
    | some d =>
      obtain ⟨Γ1, e1⟩ := s1 d hx
      have w : findR f hit (x :: xs) a = .inl d := by show (match hit a x with | some d => _ | none => _) = _; rw [hx]
      rw [w]
      exact ⟨fun d' e => ⟨Γ1, by cases e; rw [List.map_cons, mFor_rt e1]⟩, fun a' e => (nomatch e)⟩
    | none =>
      obtain ⟨Γ1, e1, h1⟩ := s2 hx
      have w : findR f hit (x :: xs) a = findR f hit xs (f a x) := by show (match hit a x with | some d => _ | none => _) = _; rw [hx]
      rw [w]
      obtain ⟨r1, r2⟩ := for_find en f hit Em xs (fun a y hy => step a y (List.mem_cons_of_mem _ hy)) (f a x) Γ1 h1
      rw [List.map_cons, mFor_nx e1]
      exact ⟨r1, r2⟩
/-! ### the drawn row -/
theorem okMul_r {i j : Int} (h : j.natAbs < 18446744073709551616) : okMul i j = true := by
  unfold okMul
  rw [two64, decide_eq_true h, Bool.or_true]
theorem okMul_l {i j : Int} (h : i.natAbs < 18446744073709551616) : okMul i j = true := by
  unfold okMul
  rw [two64, decide_eq_true h, Bool.true_or]
theorem mulI_ok {i j : Int} (h : okMul i j = true) : dMulI (.int i) (.int j) = some (.int (i * j)) := by
  show (if okMul i j then some (D.int (i * j)) else none) = _
  rw [h]; rfl
def drawOf (cell k : Int) : Int :=
  let first := (cell * 48271 + k * 69621 + 8191) % 2147483647
  let second := (first * first + first / 7 + k * 16807) % 2147483629
  let third := (second * second + second / 11 + 40692) % 2147483563
  third / 5 % 1000003
theorem mod_small (x m : Int) (h0 : 0 < m) (h : m < 4294967296) : (x % m).natAbs < 18446744073709551616 := by
  have := Int.emod_nonneg x (show m ≠ 0 by omega)
  have := Int.emod_lt_of_pos x h0
  omega
theorem mixed_tail (ns : List Int) (cell k : Int) : ∃ Γ', (sSq (sSet 3 (xV (mBin dMod (mCall dInt1 (mCons (mBin dAdd (mBin dAdd (mBin dMulI (mVarB 2) (mC (.int 48271))) (mBin dMulI (mVarB 1) (mC (.int 69621)))) (mC (.int 8191))) mNil)) (mC (.int 2147483647))))) (sSq (sSet 4 (xV (mBin dMod (mCall dInt1 (mCons (mBin dAdd (mBin dAdd (mBin dMulI (mVarB 3) (mVarB 3)) (mBin dDiv (mVarB 3) (mC (.int 7)))) (mBin dMulI (mVarB 1) (mC (.int 16807)))) mNil)) (mC (.int 2147483629))))) (sSq (sSet 5 (xV (mBin dMod (mCall dInt1 (mCons (mBin dAdd (mBin dAdd (mBin dMulI (mVarB 4) (mVarB 4)) (mBin dDiv (mVarB 4) (mC (.int 11)))) (mC (.int 40692))) mNil)) (mC (.int 2147483563))))) (sRt (mBin dMod (mBin dDiv (mVarB 5) (mC (.int 5))) (mC (.int 1000003))))))) [.val (.scr ns), .val (.int k), .val (.int cell), .emp, .emp, .emp] = some (.rt (.int (drawOf cell k)), Γ') := by
  generalize hf : (cell * 48271 + k * 69621 + 8191) % 2147483647 = first
  have f1 : first.natAbs < 18446744073709551616 := by rw [← hf]; exact mod_small _ _ (by decide) (by decide)
  generalize hs : (first * first + first / 7 + k * 16807) % 2147483629 = second
  have s1 : second.natAbs < 18446744073709551616 := by rw [← hs]; exact mod_small _ _ (by decide) (by decide)
  have e1 : dMulI (.int cell) (.int 48271) = some (.int (cell * 48271)) := mulI_ok (okMul_r (by decide))
  have e2 : dMulI (.int k) (.int 69621) = some (.int (k * 69621)) := mulI_ok (okMul_r (by decide))
  have e3 : dMulI (.int first) (.int first) = some (.int (first * first)) := mulI_ok (okMul_r f1)
  have e4 : dMulI (.int k) (.int 16807) = some (.int (k * 16807)) := mulI_ok (okMul_r (by decide))
  have e5 : dMulI (.int second) (.int second) = some (.int (second * second)) := mulI_ok (okMul_r s1)
  have w1 : (sSet 3 (xV (mBin dMod (mCall dInt1 (mCons (mBin dAdd (mBin dAdd (mBin dMulI (mVarB 2) (mC (.int 48271))) (mBin dMulI (mVarB 1) (mC (.int 69621)))) (mC (.int 8191))) mNil)) (mC (.int 2147483647))))) [.val (.scr ns), .val (.int k), .val (.int cell), .emp, .emp, .emp] = some (.nx, [.val (.scr ns), .val (.int k), .val (.int cell), .val (.int first), .emp, .emp]) := by
    rw [← hf]
    simp only [sSet, xV, mBin, mCall, mCons, mNil, mC, mVarB, List.getElem?_cons_succ, List.getElem?_cons_zero, Option.bind_some, e1, e2]
    rfl
  have w2 : (sSet 4 (xV (mBin dMod (mCall dInt1 (mCons (mBin dAdd (mBin dAdd (mBin dMulI (mVarB 3) (mVarB 3)) (mBin dDiv (mVarB 3) (mC (.int 7)))) (mBin dMulI (mVarB 1) (mC (.int 16807)))) mNil)) (mC (.int 2147483629))))) [.val (.scr ns), .val (.int k), .val (.int cell), .val (.int first), .emp, .emp] = some (.nx, [.val (.scr ns), .val (.int k), .val (.int cell), .val (.int first), .val (.int second), .emp]) := by
    rw [← hs]
    simp only [sSet, xV, mBin, mCall, mCons, mNil, mC, mVarB, List.getElem?_cons_succ, List.getElem?_cons_zero, Option.bind_some, e3, e4]
    rfl
  have w3 : (sSet 5 (xV (mBin dMod (mCall dInt1 (mCons (mBin dAdd (mBin dAdd (mBin dMulI (mVarB 4) (mVarB 4)) (mBin dDiv (mVarB 4) (mC (.int 11)))) (mC (.int 40692))) mNil)) (mC (.int 2147483563))))) [.val (.scr ns), .val (.int k), .val (.int cell), .val (.int first), .val (.int second), .emp] = some (.nx, [.val (.scr ns), .val (.int k), .val (.int cell), .val (.int first), .val (.int second), .val (.int ((second * second + second / 11 + 40692) % 2147483563))]) :=
    by
    simp only [sSet, xV, mBin, mCall, mCons, mNil, mC, mVarB, List.getElem?_cons_succ, List.getElem?_cons_zero, Option.bind_some, e5]
    rfl
  refine ⟨[.val (.scr ns), .val (.int k), .val (.int cell), .val (.int first), .val (.int second), .val (.int ((second * second + second / 11 + 40692) % 2147483563))], ?_⟩
  rw [sSq_nx w1, sSq_nx w2, sSq_nx w3]
  unfold drawOf
  simp only [hf, hs]
  rfl
def cellOf (ns : List Int) (k : Int) : Int := if ns = [] then 0 else (atI ns (k % ns.length)).getD 0
theorem atI_some {α : Type} {xs : List α} {i : Int} (h0 : 0 ≤ i) (h1 : i < xs.length) : atI xs i = some (xs[i.toNat]'(by omega)) := by
  unfold atI ixN
  rw [if_pos h0, if_pos h1]
  show xs[i.toNat]? = _
  exact List.getElem?_eq_getElem (by omega)
theorem E_mixed (ns : List Int) (k : Int) : m__law_mixed [.scr ns, .int k] = some (.int (drawOf (cellOf ns k) k)) := by
  have key : (sIf (mTB (mBin dGt (mCall dLen (mCons (mVarB 0) mNil)) (mC (.int 0)))) (sSet 2 (xV (mBin dIx (mVarB 0) (mBin dMod (mVarB 1) (mCall dLen (mCons (mVarB 0) mNil)))))) sNx) [.val (.scr ns), .val (.int k), .val (.int 0), .emp, .emp, .emp] = some (.nx, [Slot.val (.scr ns), .val (.int k), .val (.int (cellOf ns k)), .emp, .emp, .emp]) := by
    cases ns with
    | nil => rfl
    | cons n ns =>
      have hl : (0 : Int) < ((n :: ns).length : Int) := by rw [List.length_cons]; omega
      have ha : atI (n :: ns) (k % ((n :: ns).length : Int)) = some (cellOf (n :: ns) k) := by
        have h0 := Int.emod_nonneg k (show ((n :: ns).length : Int) ≠ 0 by omega)
        have h1 := Int.emod_lt_of_pos k hl
        unfold cellOf
        rw [if_neg (List.cons_ne_nil _ _), atI_some h0 h1]
        rfl
      rw [sIf_t (by
        show some (decide (0 < ((n :: ns).length : Int))) = _
        rw [decide_eq_true hl])]
      refine (sSet_v (d := .int (cellOf (n :: ns) k)) ((mBin_of (x := .scr (n :: ns)) rfl (y := .int (k % ((n :: ns).length : Int))) ?_).trans ?_)).trans ?_
      · show (if decide (0 < ((n :: ns).length : Int)) then some (D.int (k % ((n :: ns).length : Int))) else none) = _
        rw [decide_eq_true hl]; rfl
      · show (atI (n :: ns) (k % ((n :: ns).length : Int))).map D.int = _
        rw [ha]; rfl
      · rfl
  obtain ⟨Γ', t⟩ := mixed_tail ns (cellOf ns k) k
  refine run_rt (Γ1 := Γ') rfl ?_
  unfold b__law_mixed
  rw [sSq_nx (Γ1 := [.val (.scr ns), .val (.int k), .val (.int 0), .emp, .emp, .emp]) rfl, sSq_nx key]
  exact t
theorem drawOf_range (c k : Int) : 0 ≤ drawOf c k ∧ drawOf c k < 1000003 :=
  ⟨Int.emod_nonneg _ (by decide), Int.emod_lt_of_pos _ (by decide)⟩
/-- the drawn row: so many ints from 0 below 1000003 -/
theorem E_row (ns : List Int) (many : Nat) (hm : many ≤ 1000) : ∃ row : List Int, row.length = many ∧ (∀ x ∈ row, 0 ≤ x ∧ x < 1000003) ∧ m__law_row [.scr ns, .int many] = some (.lst (row.map .int)) := by
  -- big is 0 or the first cell
  have hb : ∃ big : Int, 0 ≤ big ∧ ((sIf (mtAnd (mTB (mBin dGt (mCall dLen (mCons (mVarB 0) mNil)) (mC (.int 0)))) (mTB (mBin dGe (mBin dIx (mVarB 0) (mC (.int 0))) (mBin dPow (mC (.int 10)) (mC (.int 18)))))) (sSet 2 (xV (mBin dIx (mVarB 0) (mC (.int 0))))) sNx) [.val (.scr ns), .val (.int many), .val (.int 0), .emp, .emp]) = some (.nx, [Slot.val (.scr ns), .val (.int many), .val (.int big), .emp, .emp]) := by
    cases ns with
    | nil => exact ⟨0, Int.le_refl _, rfl⟩
    | cons n ns =>
      have hl : (0 : Int) < ((n :: ns).length : Int) := by rw [List.length_cons]; omega
      have e1 : (mTB (mBin dGt (mCall dLen (mCons (mVarB 0) mNil)) (mC (.int 0)))) [.val (.scr (n :: ns)), .val (.int many), .val (.int 0), .emp, .emp] = some true := by
        show some (decide (0 < ((n :: ns).length : Int))) = _
        rw [decide_eq_true hl]
      have ha : atI (n :: ns) 0 = some n := atI_nat (j := 0) rfl
      have e2 : (mBin dIx (mVarB 0) (mC (.int 0))) [.val (.scr (n :: ns)), .val (.int many), .val (.int 0), .emp, .emp] = some (.int n) := by
        show (atI (n :: ns) 0).map D.int = _
        rw [ha]; rfl
      have e3 : (mTB (mBin dGe (mBin dIx (mVarB 0) (mC (.int 0))) (mBin dPow (mC (.int 10)) (mC (.int 18))))) [.val (.scr (n :: ns)), .val (.int many), .val (.int 0), .emp, .emp] = some (decide ((10 : Int) ^ (18 : Int).toNat ≤ n)) := by
        unfold mTB mBin at e2 ⊢
        rw [e2]; rfl
      by_cases c : (10 : Int) ^ (18 : Int).toNat ≤ n
      · refine ⟨n, Int.le_trans (by decide) c, ?_⟩
        simp only [sIf, mtAnd, e1, e3, Option.bind_some, decide_eq_true c, if_true, sSet, xV, e2]
        rfl
      · refine ⟨0, Int.le_refl _, ?_⟩
        simp only [sIf, mtAnd, e1, e3, Option.bind_some, decide_eq_false c, if_true, sNx]
        rfl
  obtain ⟨big, hb0, hbe⟩ := hb
  -- the loop
  have loop := for_inv (g := gN 4) (b := sIf (mTB (mBin dGt (mVarB 2) (mC (.int 0)))) (sSq (sApp 3 (mBin dMod (mCall dInt1 (mCons (mVarB 2) mNil)) (mC (.int 1000)))) (sSet 2 (xV (mBin dDiv (mVarB 2) (mC (.int 1000)))))) (sApp 3 (mCall m__law_mixed (mCons (mVar 0) (mCons (mVar 4) mNil)))))
    (fun xs Γ => ∃ (big : Int) (row : List Int) (s4 : Slot), 0 ≤ big ∧ row.length + xs.length = many ∧ (∀ x ∈ row, 0 ≤ x ∧ x < 1000003) ∧ (∀ x ∈ xs, ∃ i : Int, x = .int i) ∧ Γ = [.val (.scr ns), .val (.int many), .val (.int big), .own (.lst (row.map .int)), s4])
    (fun x xs Γ ⟨big, row, s4, h0, hl, hr, hx, e⟩ => by
      obtain ⟨i, rfl⟩ := hx x List.mem_cons_self
      rw [List.length_cons] at hl
      subst e
      have lim : (row.map D.int).length < LIM := by rw [List.length_map]; unfold LIM; omega
      have happ : ∀ (y : Int) (m : ME) (G : En), G = [.val (.scr ns), .val (.int many), .val (.int big), .own (.lst (row.map .int)), .val (.int i)] → m G = some (.int y) → sApp 3 m G = some (.nx, [.val (.scr ns), .val (.int many), .val (.int big), .own (.lst ((row ++ [y]).map .int)), .val (.int i)]) := by
        intro y m G hG hm
        subst hG
        show ((some (row.map D.int)).bind fun xs => (m _).bind fun d => if xs.length < LIM then some (Fl.nx, _) else none) = _
        rw [Option.bind_some, hm, Option.bind_some, if_pos lim, List.map_append]
        rfl
      by_cases c : 0 < big
      · refine ⟨[.val (.scr ns), .val (.int many), .val (.int (big / 1000)), .own (.lst ((row ++ [big % 1000]).map .int)), .val (.int i)], ?_, big / 1000, row ++ [big % 1000], .val (.int i), Int.ediv_nonneg h0 (by decide), by rw [List.length_append, List.length_singleton]; omega, fun x hx => ?_, fun x h => hx x (List.mem_cons_of_mem _ h), rfl⟩
        · show (some _).bind _ = _
          rw [Option.bind_some]
          have e1 : (mTB (mBin dGt (mVarB 2) (mC (.int 0)))) [.val (.scr ns), .val (.int many), .val (.int big), .own (.lst (row.map .int)), .val (.int i)] = some true := by
            show some (decide (0 < big)) = _
            rw [decide_eq_true c]
          show sIf _ _ _ [.val (.scr ns), .val (.int many), .val (.int big), .own (.lst (row.map .int)), .val (.int i)] = _
          unfold sIf
          rw [e1, Option.bind_some, if_pos rfl]
          unfold sSq
          rw [happ (big % 1000) _ _ rfl rfl]
          rfl
        · rcases List.mem_append.mp hx with h | h
          · exact hr x h
          · rw [List.mem_singleton.mp h]
            omega
      · refine ⟨[.val (.scr ns), .val (.int many), .val (.int big), .own (.lst ((row ++ [drawOf (cellOf ns i) i]).map .int)), .val (.int i)], ?_, big, row ++ [drawOf (cellOf ns i) i], .val (.int i), h0, by rw [List.length_append, List.length_singleton]; omega, fun x hx => ?_, fun x h => hx x (List.mem_cons_of_mem _ h), rfl⟩
        · show (some _).bind _ = _
          rw [Option.bind_some]
          have e1 : (mTB (mBin dGt (mVarB 2) (mC (.int 0)))) [.val (.scr ns), .val (.int many), .val (.int big), .own (.lst (row.map .int)), .val (.int i)] = some false := by
            show some (decide (0 < big)) = _
            rw [decide_eq_false c]
          show sIf _ _ _ [.val (.scr ns), .val (.int many), .val (.int big), .own (.lst (row.map .int)), .val (.int i)] = _
          unfold sIf
          rw [e1, Option.bind_some, if_neg Bool.false_ne_true]
          exact happ _ _ _ rfl (by
            show m__law_mixed [.scr ns, .int i] = _
            exact E_mixed ns i)
        · rcases List.mem_append.mp hx with h | h
          · exact hr x h
          · rw [List.mem_singleton.mp h]
            exact drawOf_range _ _)
    (rngD 0 many) [.val (.scr ns), .val (.int many), .val (.int big), .own (.lst []), .emp]
    ⟨big, [], .emp, hb0, by rw [rngD_len]; simp, fun _ h => absurd h List.not_mem_nil, fun x hx => by
      unfold rngD at hx
      obtain ⟨j, _, rfl⟩ := List.mem_map.mp hx
      exact ⟨_, rfl⟩, rfl⟩
  obtain ⟨Γ', e, big', row, s4, h0, hl, hr, _, rfl⟩ := loop
  refine ⟨row, by rw [List.length_nil] at hl; omega, hr, ?_⟩
  refine run_rt (Γ1 := [.val (.scr ns), .val (.int many), .val (.int big'), .val (.lst (row.map .int)), s4]) rfl ?_
  unfold b__law_row
  rw [sSq_nx (Γ1 := [.val (.scr ns), .val (.int many), .val (.int 0), .emp, .emp]) rfl, sSq_nx hbe, sSq_nx (Γ1 := [.val (.scr ns), .val (.int many), .val (.int big), .own (.lst []), .emp]) rfl, sSq_nx ((sFor_of ?_).trans e)]
  · rfl
  · show (if okR 0 (many : Int) then some (rngD 0 many) else none) = _
    rw [if_pos (by unfold okR; simp only [Bool.and_eq_true, decide_eq_true_eq]; omega)]
end SK

set_option Elab.async false
set_option linter.all false
set_option maxRecDepth 100000
set_option maxHeartbeats 4000000
set_option autoImplicit false
namespace SK
open PySem PySem.Spec PyProof.Rows L2

/-! ### _law_like of a value and itself -/
def D.okL : Nat → D → Bool
  | _, .non => true
  | _, .bl _ => true
  | _, .int _ => true
  | _, .str s => PyData.strOk s
  | n + 1, .tup xs => decide (xs.length ≤ 1000000) && xs.all (D.okL n)
  | _, _ => false
theorem rngD_eq (n : Nat) : rngD 0 n = (List.range n).map fun i : Nat => D.int i := by
  unfold rngD
  rw [Int.sub_zero, Int.toNat_natCast]
  congr 1
  funext i
  rw [Int.zero_add]
theorem okR_nat {n : Nat} (h : n ≤ 1000000) : okR 0 (n : Int) = true := by
  unfold okR
  simp only [Bool.and_eq_true, decide_eq_true_eq]
  omega
theorem like_tup {r : List D → Option D} {xs ys : List D} (hl : xs.length = ys.length) (hz : ys.length ≤ 1000000) (t : List Bool) (ht : t.length = ys.length) (h : ∀ (i : Nat) x y b, xs[i]? = some x → ys[i]? = some y → t[i]? = some b → r [x, y] = some (.bl b)) : runFn 2 3 (b__law_like r) [.tup xs, .tup ys] = some (.bl (t.all id)) := by
  refine run_rt (Γ1 := [.val (.tup xs), .val (.tup ys), .emp]) rfl ?_
  unfold b__law_like
  show sSq _ _ [.val (.tup xs), .val (.tup ys), .emp] = _
  rw [sSq_nx (Γ1 := [.val (.tup xs), .val (.tup ys), .emp]) rfl, sSq_nx (Γ1 := [.val (.tup xs), .val (.tup ys), .emp]) rfl]
  refine sSq_rt ?_
  rw [sIf_t rfl]
  rw [sSq_nx (Γ1 := [.val (.tup xs), .val (.tup ys), .emp]) (by
    rw [sIf_f]
    · rfl
    · show (some (!((xs.length : Int) == (ys.length : Int)))) = _
      rw [hl, beq_self_eq_true]; rfl)]
  refine sRt_of ((mCall_of (mCons_of (x := .lst (t.map .bl)) ?_ rfl)).trans ?_)
  · have e0 : mRng1 (mCall dLen (mCons (mVarB 1) mNil)) [.val (.tup xs), .val (.tup ys), .emp] = some ((List.range ys.length).map fun i : Nat => D.int i) := by
      show (if okR 0 (ys.length : Int) then some (rngD 0 ys.length) else none) = _
      rw [okR_nat hz, if_pos rfl, rngD_eq]
    refine (mLc_of e0 (lcL_map (fun i : Nat => D.int i) (fun i => D.bl (t.getD i false)) _ ?_) ?_).trans ?_
    rotate_left
    · rw [List.length_map, List.length_range]; unfold LIM; omega
    · congr 2
      apply List.ext_getElem?
      intro i
      rw [List.getElem?_map, List.getElem?_map]
      by_cases hi : i < ys.length
      · rw [List.getElem?_range hi, List.getElem?_eq_getElem (by omega)]
        show some (D.bl (t.getD i false)) = _
        rw [List.getD_eq_getElem?_getD, List.getElem?_eq_getElem (by omega)]; rfl
      · rw [List.getElem?_eq_none (by rw [List.length_range]; omega), List.getElem?_eq_none (by omega)]; rfl
    · intro i hi
      have hi := List.mem_range.mp hi
      refine ⟨[.val (.tup xs), .val (.tup ys), .val (.int i)], rfl, rfl, ?_⟩
      have hx : i < xs.length := by omega
      have e1 : (mBin dIx (mVarB 0) (mVarB 2)) [.val (.tup xs), .val (.tup ys), .val (.int i)] = some xs[i] := by
        show atI xs (i : Int) = _
        exact atI_nat (List.getElem?_eq_getElem hx)
      have e2 : (mBin dIx (mVarB 1) (mVarB 2)) [.val (.tup xs), .val (.tup ys), .val (.int i)] = some ys[i] := by
        show atI ys (i : Int) = _
        exact atI_nat (List.getElem?_eq_getElem hi)
      refine (mCall_of (mCons_of e1 (mCons_of e2 rfl))).trans ?_
      have hb : t[i]? = some (t.getD i false) := by
        rw [List.getD_eq_getElem?_getD, List.getElem?_eq_getElem (by omega)]; rfl
      exact h i _ _ _ (List.getElem?_eq_getElem hx) (List.getElem?_eq_getElem hi) hb
  · show (blsOf (t.map .bl)).map _ = _
    rw [blsOf_map]; rfl
theorem like_str {s : Str} (h : PyData.strOk s = true) (r : List D → Option D) : runFn 2 3 (b__law_like r) [.str s, .str s] = some (.bl true) := by
  refine run_rt (Γ1 := [.val (.str s), .val (.str s), .emp]) rfl ?_
  unfold b__law_like
  show sSq _ _ [.val (.str s), .val (.str s), .emp] = _
  rw [sSq_nx (Γ1 := [.val (.str s), .val (.str s), .emp]) rfl, sSq_nx (Γ1 := [.val (.str s), .val (.str s), .emp]) rfl, sSq_nx (Γ1 := [.val (.str s), .val (.str s), .emp]) rfl]
  refine sSq_rt ((sIf_t rfl).trans (sRt_of ?_))
  show (if (PyData.strOk s && PyData.strOk s) = true then some (D.bl (s == s)) else none) = _
  rw [h, beq_self_eq_true]; rfl
theorem like_refl : ∀ (n : Nat) (d : D), D.okL n d = true → m__law_like (n + 1) [d, d] = some (.bl true) := by
  intro n
  induction n with
  | zero =>
    intro d h
    cases d with
    | non => rfl
    | bl b => cases b <;> rfl
    | int i =>
      show some (D.bl (i == i)) = _
      rw [beq_self_eq_true]
    | str s =>
      have h : PyData.strOk s = true := h
      exact like_str h _
    | tup xs => cases h
    | lst xs => cases h
    | scr ns => cases h
  | succ n ih =>
    intro d h
    cases d with
    | non => rfl
    | bl b => cases b <;> rfl
    | int i =>
      show some (D.bl (i == i)) = _
      rw [beq_self_eq_true]
    | str s =>
      have h : PyData.strOk s = true := h
      exact like_str h _
    | tup xs =>
      obtain ⟨h1, h2⟩ := Bool.and_eq_true_iff.mp h
      have := like_tup (r := m__law_like (n + 1)) (xs := xs) (ys := xs) rfl (of_decide_eq_true h1) (List.replicate xs.length true) List.length_replicate (fun i x y b e1 e2 e3 => by
        rw [e1] at e2
        cases e2
        have : b = true := by
          rw [List.getElem?_replicate] at e3
          split at e3 <;> cases e3
          rfl
        subst this
        exact ih x (List.all_eq_true.mp h2 x (List.mem_of_getElem? e1)))
      rw [show (List.replicate xs.length true).all id = true from List.all_eq_true.mpr fun b hb => (List.mem_replicate.mp hb).2] at this
      exact this
    | lst xs => cases h
    | scr ns => cases h
/-- the call of the law's own comparison, of equal values -/
theorem like_eq {x y : D} (e : x = y) (h : D.okL 9 y = true) : m__law_like 10 [x, y] = some (.bl true) := by rw [e]; exact like_refl 9 y h
/-! slices -/
theorem cut_take (xs : List D) (c : Nat) : cutD xs none (some (c : Int)) = xs.take c := by
  unfold cutD
  rw [HT.sIx_none, HT.sIx_nat, List.drop_zero, Nat.sub_zero, ← List.take_eq_take_min]
theorem cut_drop (xs : List D) (c : Nat) : cutD xs (some (c : Int)) none = xs.drop c := by
  unfold cutD
  rw [HT.sIx_none, HT.sIx_nat]
  by_cases h : c ≤ xs.length
  · rw [Nat.min_eq_left h, List.take_of_length_le (by rw [List.length_drop]; omega)]
  · rw [Nat.min_eq_right (by omega), Nat.sub_self, List.take_zero, List.drop_eq_nil_of_le (by omega)]
theorem sl_take {m n : ME} {Γ : En} {xs : List D} {c : Nat} (h : m Γ = some (.tup xs)) (h2 : n Γ = some (.int c)) : mSl m mONone (mOSome n) Γ = some (.tup (xs.take c)) := by
  show (m Γ).bind (fun x => (some none).bind fun lo => ((n Γ).bind dInt).bind fun hi => dSl x lo hi) = _
  rw [h, h2]
  show some (D.tup (cutD xs none (some (c : Int)))) = _
  rw [cut_take]
theorem sl_drop {m n : ME} {Γ : En} {xs : List D} {c : Nat} (h : m Γ = some (.tup xs)) (h2 : n Γ = some (.int c)) : mSl m (mOSome n) mONone Γ = some (.tup (xs.drop c)) := by
  show (m Γ).bind (fun x => ((n Γ).bind dInt).bind fun lo => (some none).bind fun hi => dSl x lo hi) = _
  rw [h, h2]
  show some (D.tup (cutD xs (some (c : Int)) none)) = _
  rw [cut_drop]
theorem ix_nat {m n : ME} {Γ : En} {xs : List D} {i : Nat} {d : D} (h : m Γ = some (.tup xs)) (h2 : n Γ = some (.int i)) (h3 : xs[i]? = some d) : mBin dIx m n Γ = some d := (mBin_of h h2).trans (show atI xs (i : Int) = some d from atI_nat h3)
/-! the drawn row's cells -/
theorem row_at {m n : ME} {Γ : En} {row : List Int} {i : Nat} (h : m Γ = some (.lst (row.map .int))) (h2 : n Γ = some (.int i)) (h3 : i < row.length) : mBin dIx m n Γ = some (.int (row.getD i 0)) := (mBin_of h h2).trans (show atI (row.map D.int) (i : Int) = _ from atI_nat (by
  rw [List.getElem?_map, List.getD_eq_getElem?_getD, List.getElem?_eq_getElem h3]; rfl))
theorem row_int {m n : ME} {Γ : En} {row : List Int} {i : Nat} (h : m Γ = some (.lst (row.map .int))) (h2 : n Γ = some (.int i)) (h3 : i < row.length) : mCall dInt1 (mCons (mBin dIx m n) mNil) Γ = some (.int (row.getD i 0)) := ev1 (row_at h h2 h3) rfl
theorem mod_of {m n : ME} {Γ : En} {x y : Int} (h : m Γ = some (.int x)) (h2 : n Γ = some (.int y)) (h3 : 0 < y) : mBin dMod m n Γ = some (.int (x % y)) := (mBin_of h h2).trans (by
  show (if decide (0 < y) then some (D.int (x % y)) else none) = _
  rw [decide_eq_true h3]; rfl)
theorem rng2_of {ma mb : ME} {Γ : En} {i j : Int} (h1 : ma Γ = some (.int i)) (h2 : mb Γ = some (.int j)) (h3 : okR i j = true) : mRng2 ma mb Γ = some (rngD i j) := by
  unfold mRng2
  rw [h1, h2, Option.bind_some, Option.bind_some]
  simp only [dI, Option.bind_some, h3, if_true]
theorem not_like {x y : D} {m n : ME} {Γ : En} (hm : m Γ = some x) (hn : n Γ = some y) (e : x = y) (h : D.okL 9 y = true) : mtNot (mTru (mCall (m__law_like 10) (mCons m (mCons n mNil)))) Γ = some false := not_t (ev2 hm hn (like_eq e h))
theorem okL_tup {n : Nat} {xs : List D} (h : xs.length ≤ 1000000) (h2 : ∀ x ∈ xs, D.okL n x = true) : D.okL (n + 1) (.tup xs) = true := by
  show (decide _ && _) = true
  rw [decide_eq_true h, List.all_eq_true.mpr h2]; rfl
theorem okL_int (n : Nat) (i : Int) : D.okL n (.int i) = true := by cases n <;> rfl
theorem okL_ints {n : Nat} {xs : List Int} (h : xs.length ≤ 1000000) : D.okL (n + 1) (.tup (xs.map .int)) = true := okL_tup (by rw [List.length_map]; exact h) (fun x hx => by
  obtain ⟨i, _, rfl⟩ := List.mem_map.mp hx; exact okL_int n i)
theorem rng_len {m : ME} {Γ : En} {n : Nat} (h : m Γ = some (.int n)) (hn : n ≤ 1000000) : mRng1 m Γ = some ((List.range n).map fun i : Nat => D.int i) := by
  unfold mRng1
  rw [h]
  show (if okR 0 (n : Int) then some (rngD 0 n) else none) = _
  rw [okR_nat hn, if_pos rfl, rngD_eq]
theorem gD_at {α : Type} {xs : List α} {k : Nat} {z : α} (h : k < xs.length) : xs[k]? = some (xs.getD k z) := by
  rw [List.getD_eq_getElem?_getD, List.getElem?_eq_getElem h]; rfl
theorem nat_of {x y : Int} (h : 0 < y) : ∃ n : Nat, x % y = n ∧ (n : Int) < y := by
  have h0 := Int.emod_nonneg x (show y ≠ 0 by omega)
  obtain ⟨n, hn⟩ := Int.eq_ofNat_of_zero_le h0
  exact ⟨n, hn, by rw [← hn]; exact Int.emod_lt_of_pos x h⟩
end SK

set_option Elab.async false
set_option linter.all false
set_option maxRecDepth 100000
set_option autoImplicit false
namespace SK
open PySem PySem.Spec PyProof.Rows L2
/-! defs that several laws share -/
def b_divisor : MS :=
  (sSq (sPar 0 1 (xV (mCall dAbs (mCons (mVarB 0) mNil))) (xV (mCall dAbs (mCons (mVarB 1) mNil)))) (sSq (mWh (mTB (mBin dGt (mVarB 1) (mC (.int 0)))) (sPar 0 1 (xV (mVar 1)) (xV (mBin dMod (mVarB 0) (mVarB 1)))) 2000) (sRt (mVar 0))))
def m_divisor : List D → Option D := runFn 2 2 b_divisor
def b_turned_number : MS :=
  (sSq (sFor (mRng1 (mVarB 1)) (gN 2) (sIf (mTB (mBin dEq (mBin dMod (mBin dMulI (mVarB 0) (mVarB 2)) (mVarB 1)) (mC (.int 1)))) (sRt (mVar 2)) sNx)) (sRt (mC .non)))
def m_turned_number : List D → Option D := runFn 2 3 b_turned_number
def b_power_in : MS :=
  (sSq (sPar 3 4 (xV (mBin dMod (mC (.int 1)) (mVarB 2))) (xV (mBin dMod (mVarB 0) (mVarB 2)))) (sSq (mWh (mTB (mBin dGt (mVarB 1) (mC (.int 0)))) (sSq (sIf (mTB (mBin dEq (mBin dMod (mVarB 1) (mC (.int 2))) (mC (.int 1)))) (sSet 3 (xV (mBin dMod (mBin dMulI (mVarB 3) (mVarB 4)) (mVarB 2)))) sNx) (sPar 4 1 (xV (mBin dMod (mBin dMulI (mVarB 4) (mVarB 4)) (mVarB 2))) (xV (mBin dDiv (mVarB 1) (mC (.int 2)))))) 2000) (sRt (mVar 3))))
def m_power_in : List D → Option D := runFn 3 5 b_power_in
def b_round_of : MS :=
  (sSq (sSet 2 (xV (mBin dMod (mC (.int 1)) (mVarB 1)))) (sSq (sFor (mRng2 (mC (.int 1)) (mBin dAdd (mVarB 1) (mC (.int 1)))) (gN 3) (sSq (sSet 2 (xV (mBin dMod (mBin dMulI (mVarB 2) (mVarB 0)) (mVarB 1)))) (sIf (mTB (mBin dEq (mVarB 2) (mBin dMod (mC (.int 1)) (mVarB 1)))) (sRt (mVar 3)) sNx))) (sRt (mC .non))))
def m_round_of : List D → Option D := runFn 2 4 b_round_of
def b_square_sign : MS :=
  (sSq (sPar 0 2 (xV (mBin dMod (mVarB 0) (mVarB 1))) (xV (mC (.int 1)))) (sSq (mWh (mTB (mBin dNe (mVarB 0) (mC (.int 0)))) (sSq (mWh (mTB (mBin dEq (mBin dMod (mVarB 0) (mC (.int 2))) (mC (.int 0)))) (sSq (sAug 0 dDiv (mC (.int 2))) (sIf (mTB (mBin dIn (mBin dMod (mVarB 1) (mC (.int 8))) (mTup (mCons (mC (.int 3)) (mCons (mC (.int 5)) mNil))))) (sSet 2 (xV (mUn dNeg (mVarB 2)))) sNx)) 2000) (sSq (sPar 0 1 (xV (mVar 1)) (xV (mVar 0))) (sSq (sIf (mtAnd (mTB (mBin dEq (mBin dMod (mVarB 0) (mC (.int 4))) (mC (.int 3)))) (mTB (mBin dEq (mBin dMod (mVarB 1) (mC (.int 4))) (mC (.int 3))))) (sSet 2 (xV (mUn dNeg (mVarB 2)))) sNx) (sAug 0 dMod (mVarB 1))))) 2000) (sRt (mIf (mTB (mBin dEq (mVarB 1) (mC (.int 1)))) (mVar 2) (mC (.int 0))))))
def m_square_sign : List D → Option D := runFn 2 3 b_square_sign
def b_parts_of : MS :=
  (sSq (sPar 1 2 (xO (mLst mNil)) (xV (mC (.int 2)))) (sSq (mWh (mTB (mBin dGt (mVarB 0) (mC (.int 1)))) (sSq (sSet 3 (xV (mC (.int 0)))) (sSq (mWh (mTB (mBin dEq (mBin dMod (mVarB 0) (mVarB 2)) (mC (.int 0)))) (sPar 0 3 (xV (mBin dDiv (mVarB 0) (mVarB 2))) (xV (mBin dAdd (mVarB 3) (mC (.int 1))))) 2000) (sSq (sIf (mTru (mVarB 3)) (sApp 1 (mTup (mCons (mVar 2) (mCons (mVar 3) mNil)))) sNx) (sSet 2 (xV (mIf (mtOr (mTB (mBin dLe (mBin dMulI (mVarB 2) (mVarB 2)) (mVarB 0))) (mTB (mBin dEq (mVarB 0) (mC (.int 1))))) (mBin dAdd (mVarB 2) (mC (.int 1))) (mVar 0))))))) 2000) (sRt (mCall dTuple (mCons (mVarB 1) mNil)))))
def m_parts_of : List D → Option D := runFn 1 4 b_parts_of
def b__law_common : MS :=
  (sSq (sPar 0 1 (xV (mCall dAbs (mCons (mVarB 0) mNil))) (xV (mCall dAbs (mCons (mVarB 1) mNil)))) (sSq (sFor (mRng1 (mC (.int 200))) (gN 2) (sSq (sIf (mTB (mBin dEq (mVarB 1) (mC (.int 0)))) sBk sNx) (sPar 0 1 (xV (mVar 1)) (xV (mBin dMod (mCall dInt1 (mCons (mVarB 0) mNil)) (mVarB 1)))))) (sRt (mVar 0))))
def m__law_common : List D → Option D := runFn 2 3 b__law_common
end SK

set_option Elab.async false
set_option linter.all false
set_option maxRecDepth 100000
set_option maxHeartbeats 4000000
set_option autoImplicit false
namespace SK
open PySem PySem.Spec PyProof.Rows L2
/-! ### mirrors of the defs that several laws share -/
theorem mod_nat {x n : Nat} (h : 0 < n) : dMod (.int x) (.int n) = some (.int ((x % n : Nat) : Int)) := by
  show (if decide ((0 : Int) < (n : Int)) then some (D.int ((x : Int) % (n : Int))) else none) = _
  rw [decide_eq_true (by omega)]; rfl
theorem abs_nat (x : Nat) : dAbs [.int x] = some (.int x) := by
  show some (D.int (if (x : Int) < 0 then -(x : Int) else x)) = _
  rw [if_neg (by omega)]
/-! divisor -/
def n_divisor : List D → Option D
  | [.int a, .int b] => if decide (0 ≤ a) && (decide (0 ≤ b) && decide (b < 1000)) then some (.int (Nat.gcd a.toNat b.toNat)) else none
  | _ => none
def gT1 (s : Nat × Nat) : Bool := decide (0 < s.2)
def gF1 (s : Nat × Nat) : Nat × Nat := (s.2, s.1 % s.2)
theorem g_end (N : Nat) (s : Nat × Nat) (h : s.2 ≤ N) : gT1 (wh gT1 gF1 N s) = false :=
  wh_end (P := fun _ => True) Prod.snd (fun a _ h => ⟨trivial, Nat.mod_lt _ (of_decide_eq_true h)⟩) N s trivial h
theorem g_gcd : ∀ (N : Nat) (s : Nat × Nat), s.2 ≤ N → (wh gT1 gF1 N s).1 = Nat.gcd s.1 s.2
  | 0, (x, y), h => by
    have : y = 0 := Nat.le_zero.mp h
    subst this; exact (Nat.gcd_zero_right x).symm
  | N + 1, (x, y), h => by
    show (if gT1 (x, y) then wh gT1 gF1 N (gF1 (x, y)) else (x, y)).1 = _
    by_cases hy : 0 < y
    · rw [if_pos (show gT1 (x, y) = true from decide_eq_true hy), g_gcd N (gF1 (x, y)) (by have := Nat.mod_lt x hy; show x % y ≤ N; have h : y ≤ N + 1 := h; omega)]
      show Nat.gcd y (x % y) = Nat.gcd x y
      rw [Nat.gcd_comm y, ← Nat.gcd_rec, Nat.gcd_comm]
    · have : y = 0 := by omega
      subst this
      rw [if_neg (show ¬ gT1 (x, 0) = true from fun h => absurd (of_decide_eq_true h) (Nat.lt_irrefl 0))]; exact (Nat.gcd_zero_right x).symm
theorem le_divisor : LeF n_divisor m_divisor := by
  intro x r h
  unfold n_divisor at h
  split at h
  · rename_i a b
    obtain ⟨c, rfl⟩ := if_someP h
    simp only [Bool.and_eq_true, decide_eq_true_eq] at c
    obtain ⟨h0, h1, h2⟩ := c
    obtain ⟨a, rfl⟩ := Int.eq_ofNat_of_zero_le h0
    obtain ⟨b, rfl⟩ := Int.eq_ofNat_of_zero_le h1
    have hb : b ≤ 1999 := by omega
    obtain ⟨Γ', e, e2, _⟩ := wh_run (c := (mTB (mBin dGt (mVarB 1) (mC (.int 0))))) (b := (sPar 0 1 (xV (mVar 1)) (xV (mBin dMod (mVarB 0) (mVarB 1))))) gT1 gF1 (fun s Γ => Γ = [.val (.int s.1), .val (.int s.2)]) (fun _ => True)
      (fun s Γ _ e => by
        subst e
        show some (decide ((0 : Int) < (s.2 : Int))) = some (decide (0 < s.2))
        by_cases h : 0 < s.2
        · rw [decide_eq_true h, decide_eq_true (by omega)]
        · rw [decide_eq_false h, decide_eq_false (by omega)])
      (fun s Γ _ e h => by
        subst e
        have h := of_decide_eq_true h
        refine ⟨trivial, _, ?_, rfl⟩
        show (some (Slot.val (.int s.2))).bind (fun z => ((dMod (.int s.1) (.int s.2)).map Slot.val).map fun t => (Fl.nx, _)) = _
        rw [mod_nat h]; rfl) 1999 (a, b) _ trivial rfl (g_end _ _ hb)
    subst e2
    rw [g_gcd _ _ hb] at e
    refine run_q rfl ?_
    unfold b_divisor
    refine q_par (d := .int a) (e := .int b) (ev1 rfl (abs_nat a)) (ev1 rfl (abs_nat b)) (q_nx e (q_ret rfl))
  · cases h
/-! _law_common -/
def n__law_common : List D → Option D
  | [.int a, .int b] => if decide (0 ≤ a) && (decide (0 ≤ b) && decide (b < 200)) then some (.int (Nat.gcd a.toNat b.toNat)) else none
  | _ => none
theorem common_run : ∀ (xs : List D) (x y : Nat) (s : Slot), y ≤ xs.length → ∃ Γ', mFor (gN 2) (sSq (sIf (mTB (mBin dEq (mVarB 1) (mC (.int 0)))) sBk sNx) (sPar 0 1 (xV (mVar 1)) (xV (mBin dMod (mCall dInt1 (mCons (mVarB 0) mNil)) (mVarB 1))))) xs [.val (.int x), .val (.int y), s] = some (.nx, Γ') ∧ ∃ t, Γ' = [.val (.int (Nat.gcd x y)), .val (.int 0), t]
  | [], x, y, s, h => by
    have : y = 0 := Nat.le_zero.mp h
    subst this
    exact ⟨_, rfl, s, by rw [Nat.gcd_zero_right]; rfl⟩
  | d :: xs, x, y, s, h => by
    by_cases hy : y = 0
    · subst hy
      exact ⟨_, mFor_bk (Γ1 := [.val (.int x), .val (.int 0), .val d]) rfl, _, by rw [Nat.gcd_zero_right]⟩
    · obtain ⟨Γ', e, t, h1⟩ := common_run xs y (x % y) (.val d) (by have := Nat.mod_lt x (show 0 < y by omega); have h : y ≤ xs.length + 1 := h; omega)
      refine ⟨Γ', (mFor_nx ?_).trans e, t, ?_⟩
      · refine (sSq_nx (Γ := [.val (.int x), .val (.int y), .val d]) (Γ1 := [.val (.int x), .val (.int y), .val d]) ((sIf_f ?_).trans rfl)).trans ?_
        · show some ((y : Int) == 0) = _
          rw [beq_eq_false_iff_ne.mpr (by omega)]
        · show (some (Slot.val (.int y))).bind (fun z => ((dMod (.int x) (.int y)).map Slot.val).map fun t => (Fl.nx, _)) = _
          rw [mod_nat (by omega)]; rfl
      · rw [h1, Nat.gcd_comm y, ← Nat.gcd_rec, Nat.gcd_comm]
theorem le__law_common : LeF n__law_common m__law_common := by
  intro x r h
  unfold n__law_common at h
  split at h
  · rename_i a b
    obtain ⟨c, rfl⟩ := if_someP h
    simp only [Bool.and_eq_true, decide_eq_true_eq] at c
    obtain ⟨h0, h1, h2⟩ := c
    obtain ⟨a, rfl⟩ := Int.eq_ofNat_of_zero_le h0
    obtain ⟨b, rfl⟩ := Int.eq_ofNat_of_zero_le h1
    obtain ⟨Γ', e, t, rfl⟩ := common_run ((List.range 200).map fun i : Nat => D.int i) a b .emp (by rw [List.length_map, List.length_range]; omega)
    refine run_q rfl ?_
    unfold b__law_common
    refine q_par (d := .int a) (e := .int b) (ev1 rfl (abs_nat a)) (ev1 rfl (abs_nat b)) (q_nx ((sFor_of ?_).trans e) (q_ret rfl))
    show (if okR 0 200 then some (rngD 0 200) else none) = _
    rw [show okR 0 200 = true by decide, if_pos rfl]
    exact congrArg some (rngD_eq 200)
  · cases h
/-! power_in -/
def n_power_in : List D → Option D
  | [.int a, .int e, .int n] => if decide (0 < n) && (decide (n < 4611686018427387904) && (decide (0 ≤ e) && decide (e < 4611686018427387904))) then some (.int (((a % n).toNat ^ e.toNat % n.toNat : Nat) : Int)) else none
  | _ => none
def pT (s : Nat × Nat × Nat) : Bool := decide (0 < s.2.2)
def pF (n : Nat) (s : Nat × Nat × Nat) : Nat × Nat × Nat := (if s.2.2 % 2 = 1 then s.1 * s.2.1 % n else s.1, s.2.1 * s.2.1 % n, s.2.2 / 2)
theorem p_end (n : Nat) : ∀ (N : Nat) (s : Nat × Nat × Nat), s.2.2 < 2 ^ N → pT (wh pT (pF n) N s) = false
  | 0, s, h => by
    have : s.2.2 = 0 := by omega
    show decide (0 < s.2.2) = false
    rw [this]; rfl
  | N + 1, s, h => by
    show pT (if pT s then wh pT (pF n) N (pF n s) else s) = false
    by_cases hs : pT s = true
    · rw [if_pos hs]
      exact p_end n N (pF n s) (by show s.2.2 / 2 < 2 ^ N; rw [Nat.pow_succ] at h; omega)
    · rw [if_neg hs]; exact Bool.eq_false_iff.mpr hs
theorem p_val (n : Nat) (hn : 0 < n) : ∀ (N : Nat) (s : Nat × Nat × Nat), s.2.2 < 2 ^ N → s.1 < n → (wh pT (pF n) N s).1 = s.1 * s.2.1 ^ s.2.2 % n
  | 0, (fo, ba, e), h, h1 => by
    have h : e < 2 ^ 0 := h
    have h1 : fo < n := h1
    have : e = 0 := by omega
    subst this
    show fo = fo * ba ^ 0 % n
    rw [Nat.pow_zero, Nat.mul_one, Nat.mod_eq_of_lt h1]
  | N + 1, (fo, ba, e), h, h1 => by
    have h : e < 2 ^ (N + 1) := h
    have h1 : fo < n := h1
    show (if pT (fo, ba, e) then wh pT (pF n) N (pF n (fo, ba, e)) else (fo, ba, e)).1 = fo * ba ^ e % n
    by_cases he : 0 < e
    · rw [if_pos (show pT (fo, ba, e) = true from decide_eq_true he)]
      have h2 : e / 2 < 2 ^ N := by rw [Nat.pow_succ] at h; omega
      have h3 : (pF n (fo, ba, e)).1 < n := by
        show (if e % 2 = 1 then fo * ba % n else fo) < n
        split
        · exact Nat.mod_lt _ hn
        · exact h1
      rw [p_val n hn N _ h2 h3]
      show (if e % 2 = 1 then fo * ba % n else fo) * (ba * ba % n) ^ (e / 2) % n = _
      have e0 : ba ^ e = ba ^ (e % 2) * (ba * ba) ^ (e / 2) := by
        rw [← Nat.pow_two, ← Nat.pow_mul, ← Nat.pow_add, Nat.mod_add_div]
      rw [e0]
      rcases Nat.mod_two_eq_zero_or_one e with e1 | e1
      · rw [if_neg (by omega), e1, Nat.pow_zero, Nat.one_mul, Nat.mul_mod, ← Nat.pow_mod, ← Nat.mul_mod]
      · rw [if_pos e1, e1, Nat.pow_one, ← Nat.mul_assoc, Nat.mul_mod, Nat.mod_mod, ← Nat.pow_mod, ← Nat.mul_mod]
    · have : e = 0 := by omega
      subst this
      rw [if_neg (show ¬ pT (fo, ba, 0) = true from fun h => absurd (of_decide_eq_true h) (Nat.lt_irrefl 0))]
      show fo = fo * ba ^ 0 % n
      rw [Nat.pow_zero, Nat.mul_one, Nat.mod_eq_of_lt h1]
theorem mulI_nat {x y : Nat} (h : x < 18446744073709551616) : dMulI (.int x) (.int y) = some (.int ((x * y : Nat) : Int)) := mulI_ok (okMul_l (by rw [Int.natAbs_natCast]; exact h))
theorem le_power_in : LeF n_power_in m_power_in := by
  intro x r h
  unfold n_power_in at h
  split at h
  · rename_i a e n
    obtain ⟨c, rfl⟩ := if_someP h
    simp only [Bool.and_eq_true, decide_eq_true_eq] at c
    obtain ⟨h0, h1, h2, h3⟩ := c
    obtain ⟨n, rfl⟩ := Int.eq_ofNat_of_zero_le (Int.le_of_lt h0)
    obtain ⟨e, rfl⟩ := Int.eq_ofNat_of_zero_le h2
    have hn : 0 < n := by omega
    have ha := Int.emod_nonneg a (show (n : Int) ≠ 0 by omega)
    obtain ⟨b, hb⟩ := Int.eq_ofNat_of_zero_le ha
    have he62 : (4611686018427387904 : Nat) = 2 ^ 62 := by decide
    have he : e < 2 ^ 1999 := Nat.lt_of_lt_of_le (show e < 2 ^ 62 by omega) (Nat.pow_le_pow_right (by decide) (by decide))
    have hb2 : b < n := by have := Int.emod_lt_of_pos a h0; omega
    obtain ⟨Γ', e1, e2, _⟩ := wh_run (c := (mTB (mBin dGt (mVarB 1) (mC (.int 0))))) (b := (sSq (sIf (mTB (mBin dEq (mBin dMod (mVarB 1) (mC (.int 2))) (mC (.int 1)))) (sSet 3 (xV (mBin dMod (mBin dMulI (mVarB 3) (mVarB 4)) (mVarB 2)))) sNx) (sPar 4 1 (xV (mBin dMod (mBin dMulI (mVarB 4) (mVarB 4)) (mVarB 2))) (xV (mBin dDiv (mVarB 1) (mC (.int 2))))))) pT (pF n) (fun s Γ => Γ = [.val (.int a), .val (.int s.2.2), .val (.int n), .val (.int s.1), .val (.int s.2.1)]) (fun s => s.1 < n ∧ s.2.1 < n)
      (fun s Γ _ e => by
        subst e
        show some (decide ((0 : Int) < (s.2.2 : Int))) = some (decide (0 < s.2.2))
        by_cases h : 0 < s.2.2
        · rw [decide_eq_true h, decide_eq_true (by omega)]
        · rw [decide_eq_false h, decide_eq_false (by omega)])
      (fun s Γ hp ee h => by
        subst ee
        obtain ⟨fo, ba, e⟩ := s
        obtain ⟨p1, p2⟩ := hp
        have p1 : fo < n := p1
        have p2 : ba < n := p2
        refine ⟨⟨?_, Nat.mod_lt _ hn⟩, [.val (.int a), .val (.int (e / 2 : Nat)), .val (.int n), .val (.int (if e % 2 = 1 then fo * ba % n else fo : Nat)), .val (.int (ba * ba % n : Nat))], ?_, rfl⟩
        · show (if e % 2 = 1 then fo * ba % n else fo) < n
          split
          · exact Nat.mod_lt _ hn
          · exact p1
        · have e2 : mTB (mBin dEq (mBin dMod (mVarB 1) (mC (.int 2))) (mC (.int 1))) [.val (.int a), .val (.int e), .val (.int n), .val (.int fo), .val (.int ba)] = some (decide (e % 2 = 1)) := by
            show some (((e : Int) % 2) == 1) = _
            by_cases h : e % 2 = 1
            · rw [decide_eq_true h, beq_iff_eq.mpr (by omega)]
            · rw [decide_eq_false h, beq_eq_false_iff_ne.mpr (by omega)]
          refine (sSq_nx (Γ1 := [.val (.int a), .val (.int e), .val (.int n), .val (.int (if e % 2 = 1 then fo * ba % n else fo : Nat)), .val (.int ba)]) ?_).trans ?_
          · by_cases h : e % 2 = 1
            · rw [sIf_t (by rw [e2, decide_eq_true h]), if_pos h]
              exact sSet_v ((mBin_of ((mBin_of rfl rfl).trans (mulI_nat (by omega))) rfl).trans (mod_nat hn))
            · rw [sIf_f (by rw [e2, decide_eq_false h]), if_neg h]; rfl
          · unfold sPar xV
            rw [(mBin_of (f := dMod) (x := .int (ba * ba : Nat)) (y := .int n) ((mBin_of rfl rfl).trans (mulI_nat (by omega))) rfl).trans (mod_nat hn)]
            rfl) 1999 (1 % n, b, e) _ ⟨Nat.mod_lt _ hn, hb2⟩ rfl (p_end n _ _ he)
    subst e2
    rw [p_val n hn _ _ he (Nat.mod_lt _ hn)] at e1
    refine run_q rfl ?_
    unfold b_power_in
    refine q_par (Γ := [.val (.int a), .val (.int e), .val (.int n), .emp, .emp]) (d := .int (1 % n : Nat)) (e := .int b) ((mBin_of (x := .int (1 : Nat)) rfl rfl).trans (mod_nat hn)) ((mod_of rfl rfl h0).trans (by rw [hb])) (q_nx e1 ((q_ret rfl).trans ?_))
    show some (Fl.rt (.int ((1 % n * b ^ e % n : Nat) : Int))) = some (Fl.rt (.int (((a % (n : Int)).toNat ^ e % n : Nat) : Int)))
    rw [hb]
    show some (Fl.rt (.int ((1 % n * b ^ e % n : Nat) : Int))) = some (Fl.rt (.int ((b ^ e % n : Nat) : Int)))
    rw [Nat.mul_mod, Nat.mod_mod, ← Nat.mul_mod, Nat.one_mul]
  · cases h

/-! round_of -/
def roundN (a n : Nat) : D := match findR (fun p (_ : Nat) => p * a % n) (fun p i => if p * a % n = 1 % n then some (D.int (1 + (i : Int))) else none) (List.range n) (1 % n) with
  | .inl d => d
  | .inr _ => .non
def n_round_of : List D → Option D
  | [.int a, .int n] => if decide (0 ≤ a) && (decide (0 < n) && decide (n ≤ 100000)) then some (roundN a.toNat n.toNat) else none
  | _ => none
theorem rng2_one {m : ME} {Γ : En} {n : Nat} (h : m Γ = some (.int n)) (hn : n ≤ 100000) : mRng2 (mC (.int 1)) (mBin dAdd m (mC (.int 1))) Γ = some ((List.range n).map fun i : Nat => D.int (1 + (i : Int))) := by
  have ok : okR 1 ((n : Int) + 1) = true := by
    unfold okR
    simp only [Bool.and_eq_true, decide_eq_true_eq]
    omega
  rw [rng2_of (i := 1) (j := (n : Int) + 1) rfl ((mBin_of h rfl).trans rfl) ok]
  unfold rngD
  rw [show ((n : Int) + 1 - 1).toNat = n by omega]
theorem eq_int {i j : Nat} : D.eqb (.int i) (.int j) = decide (i = j) := by
  show ((i : Int) == (j : Int)) = _
  by_cases h : i = j
  · rw [decide_eq_true h, beq_iff_eq.mpr (by omega)]
  · rw [decide_eq_false h, beq_eq_false_iff_ne.mpr (by omega)]
theorem le_round_of : LeF n_round_of m_round_of := by
  intro x r h
  unfold n_round_of at h
  split at h
  · rename_i a n
    obtain ⟨c, rfl⟩ := if_someP h
    simp only [Bool.and_eq_true, decide_eq_true_eq] at c
    obtain ⟨h0, h1, h2⟩ := c
    obtain ⟨a, rfl⟩ := Int.eq_ofNat_of_zero_le h0
    obtain ⟨n, rfl⟩ := Int.eq_ofNat_of_zero_le (Int.le_of_lt h1)
    have hn : 0 < n := by omega
    have F := for_find (g := gN 3) (b := (sSq (sSet 2 (xV (mBin dMod (mBin dMulI (mVarB 2) (mVarB 0)) (mVarB 1)))) (sIf (mTB (mBin dEq (mVarB 2) (mBin dMod (mC (.int 1)) (mVarB 1)))) (sRt (mVar 3)) sNx))) (fun i : Nat => D.int (1 + (i : Int))) (fun p (_ : Nat) => p * a % n) (fun p i => if p * a % n = 1 % n then some (D.int (1 + (i : Int))) else none) (fun p Γ => p < n ∧ ∃ s3, Γ = [.val (.int a), .val (.int n), .val (.int p), s3]) (List.range n)
      (fun p i hi Γ ⟨hp, s3, e⟩ => by
        subst e
        have e0 : (sSet 2 (xV (mBin dMod (mBin dMulI (mVarB 2) (mVarB 0)) (mVarB 1)))) [.val (.int a), .val (.int n), .val (.int p), .val (.int (1 + (i : Int)))] = some (.nx, [.val (.int a), .val (.int n), .val (.int (p * a % n : Nat)), .val (.int (1 + (i : Int)))]) :=
          sSet_v ((mBin_of ((mBin_of rfl rfl).trans (mulI_nat (by omega))) rfl).trans (mod_nat hn))
        have e1 : (mTB (mBin dEq (mVarB 2) (mBin dMod (mC (.int 1)) (mVarB 1)))) [.val (.int a), .val (.int n), .val (.int (p * a % n : Nat)), .val (.int (1 + (i : Int)))] = some (decide (p * a % n = 1 % n)) := by
          refine mTB_of ((mBin_of (x := .int (p * a % n : Nat)) (y := .int (1 % n : Nat)) rfl ((mBin_of (x := .int (1 : Nat)) rfl rfl).trans (mod_nat hn))).trans ?_)
          show some (D.bl (D.eqb (.int (p * a % n : Nat)) (.int (1 % n : Nat)))) = _
          rw [eq_int]
        constructor
        · intro d hd
          obtain ⟨hc, rfl⟩ := if_someP hd
          exact ⟨_, (sSq_nx (Γ := [.val (.int a), .val (.int n), .val (.int p), .val (.int (1 + (i : Int)))]) e0).trans ((sIf_t (by rw [e1, decide_eq_true hc])).trans (sRt_of rfl))⟩
        · intro hd
          have hc : ¬ p * a % n = 1 % n := fun hc => by rw [if_pos hc] at hd; cases hd
          exact ⟨_, (sSq_nx (Γ := [.val (.int a), .val (.int n), .val (.int p), .val (.int (1 + (i : Int)))]) e0).trans ((sIf_f (by rw [e1, decide_eq_false hc])).trans rfl), Nat.mod_lt _ hn, _, rfl⟩) (1 % n) [.val (.int a), .val (.int n), .val (.int (1 % n : Nat)), .emp] ⟨Nat.mod_lt _ hn, _, rfl⟩
    have st : (xV (mBin dMod (mC (.int 1)) (mVarB 1))) [.val (.int a), .val (.int n), .emp, .emp] = some (.val (.int (1 % n : Nat))) := by
      unfold xV
      rw [(mBin_of (x := .int (1 : Nat)) (y := .int n) rfl rfl).trans (mod_nat hn)]; rfl
    have ri : (mRng2 (mC (.int 1)) (mBin dAdd (mVarB 1) (mC (.int 1)))) [.val (.int a), .val (.int n), .val (.int (1 % n : Nat)), .emp] = some ((List.range n).map fun i : Nat => D.int (1 + (i : Int))) := rng2_one rfl (by omega)
    show m_round_of [.int a, .int n] = some (roundN a n)
    unfold roundN
    have s1 : (sSet 2 (xV (mBin dMod (mC (.int 1)) (mVarB 1)))) [.val (.int a), .val (.int n), .emp, .emp] = some (.nx, [.val (.int a), .val (.int n), .val (.int (1 % n : Nat)), .emp]) := by
      unfold sSet; rw [st]; rfl
    split
    · rename_i d hd
      obtain ⟨Γ', e⟩ := F.1 d hd
      refine run_rt (Γ1 := Γ') rfl ?_
      unfold b_round_of
      exact (sSq_nx s1).trans (sSq_rt ((sFor_of ri).trans e))
    · rename_i a' hd
      obtain ⟨Γ', e, _, s3, rfl⟩ := F.2 a' hd
      refine run_rt (Γ1 := [.val (.int a), .val (.int n), .val (.int a'), s3]) rfl ?_
      unfold b_round_of
      exact (sSq_nx s1).trans ((sSq_nx ((sFor_of ri).trans e)).trans rfl)
  · cases h
/-! turned_number -/
def turnN (a n : Nat) : D := match findR (fun (u : Unit) (_ : Nat) => u) (fun _ i => if a * i % n = 1 then some (D.int (i : Int)) else none) (List.range n) () with
  | .inl d => d
  | .inr _ => .non
def n_turned_number : List D → Option D
  | [.int a, .int n] => if decide (0 ≤ a) && (decide (0 < n) && decide (n ≤ 100000)) then some (turnN a.toNat n.toNat) else none
  | _ => none
theorem le_turned_number : LeF n_turned_number m_turned_number := by
  intro x r h
  unfold n_turned_number at h
  split at h
  · rename_i a n
    obtain ⟨c, rfl⟩ := if_someP h
    simp only [Bool.and_eq_true, decide_eq_true_eq] at c
    obtain ⟨h0, h1, h2⟩ := c
    obtain ⟨a, rfl⟩ := Int.eq_ofNat_of_zero_le h0
    obtain ⟨n, rfl⟩ := Int.eq_ofNat_of_zero_le (Int.le_of_lt h1)
    have hn : 0 < n := by omega
    have F := for_find (g := gN 2) (b := (sIf (mTB (mBin dEq (mBin dMod (mBin dMulI (mVarB 0) (mVarB 2)) (mVarB 1)) (mC (.int 1)))) (sRt (mVar 2)) sNx)) (fun i : Nat => D.int (i : Int)) (fun (u : Unit) (_ : Nat) => u) (fun _ i => if a * i % n = 1 then some (D.int (i : Int)) else none) (fun p Γ => ∃ s2, Γ = [.val (.int a), .val (.int n), s2]) (List.range n)
      (fun p i hi Γ ⟨s2, e⟩ => by
        subst e
        have hi := List.mem_range.mp hi
        have e1 : (mTB (mBin dEq (mBin dMod (mBin dMulI (mVarB 0) (mVarB 2)) (mVarB 1)) (mC (.int 1)))) [.val (.int a), .val (.int n), .val (.int i)] = some (decide (a * i % n = 1)) := by
          refine mTB_of ((mBin_of (x := .int (a * i % n : Nat)) (y := .int (1 : Nat)) ((mBin_of (x := .int (a * i : Nat)) ((mBin_of rfl rfl).trans (mulI_ok (okMul_r (by rw [Int.natAbs_natCast]; omega)))) rfl).trans (mod_nat hn)) rfl).trans ?_)
          show some (D.bl (D.eqb (.int (a * i % n : Nat)) (.int (1 : Nat)))) = _
          rw [eq_int]
        constructor
        · intro d hd
          obtain ⟨hc, rfl⟩ := if_someP hd
          exact ⟨_, (sIf_t (Γ := [.val (.int a), .val (.int n), .val (.int i)]) (by rw [e1, decide_eq_true hc])).trans (sRt_of rfl)⟩
        · intro hd
          have hc : ¬ a * i % n = 1 := fun hc => by rw [if_pos hc] at hd; cases hd
          exact ⟨_, (sIf_f (Γ := [.val (.int a), .val (.int n), .val (.int i)]) (by rw [e1, decide_eq_false hc])).trans rfl, _, rfl⟩) () [.val (.int a), .val (.int n), .emp] ⟨_, rfl⟩
    have ri : (mRng1 (mVarB 1)) [.val (.int a), .val (.int n), .emp] = some ((List.range n).map fun i : Nat => D.int (i : Int)) := by
      show (if okR 0 (n : Int) then some (rngD 0 n) else none) = _
      rw [okR_nat (by omega), if_pos rfl, rngD_eq]
    show m_turned_number [.int a, .int n] = some (turnN a n)
    unfold turnN
    split
    · rename_i d hd
      obtain ⟨Γ', e⟩ := F.1 d hd
      refine run_rt (Γ1 := Γ') rfl ?_
      unfold b_turned_number
      exact sSq_rt ((sFor_of ri).trans e)
    · rename_i a' hd
      obtain ⟨Γ', e, s2, rfl⟩ := F.2 a' hd
      refine run_rt (Γ1 := [.val (.int a), .val (.int n), s2]) rfl ?_
      unfold b_turned_number
      exact (sSq_nx ((sFor_of ri).trans e)).trans rfl
  · cases h

/-! square_sign -/
abbrev S3 := Nat × Nat × Int
def iT (s : S3) : Bool := decide (s.1 % 2 = 0)
def iF (s : S3) : S3 := (s.1 / 2, s.2.1, if s.2.1 % 8 = 3 ∨ s.2.1 % 8 = 5 then -s.2.2 else s.2.2)
def oT (s : S3) : Bool := decide (0 < s.1)
def oF (s : S3) : S3 := (((wh iT iF 1999 s).2.1 % (wh iT iF 1999 s).1), (wh iT iF 1999 s).1, if (wh iT iF 1999 s).2.1 % 4 = 3 ∧ (wh iT iF 1999 s).1 % 4 = 3 then -(wh iT iF 1999 s).2.2 else (wh iT iF 1999 s).2.2)
def signN (a n : Nat) : Int := if (wh oT oF 1999 (a, n, 1)).2.1 = 1 then (wh oT oF 1999 (a, n, 1)).2.2 else 0
def n_square_sign : List D → Option D
  | [.int a, .int n] => if decide (0 < n) && decide (n < 1999) then some (.int (signN (a % n).toNat n.toNat)) else none
  | _ => none
def enS (s : S3) : En := [.val (.int s.1), .val (.int s.2.1), .val (.int s.2.2)]
theorem i_end (s : S3) (h : s.1 ≤ 1999) (h0 : 0 < s.1) : iT (wh iT iF 1999 s) = false :=
  wh_end (P := fun s => 0 < s.1) Prod.fst (fun a p h => by
    have h : a.1 % 2 = 0 := of_decide_eq_true h
    have p : 0 < a.1 := p
    exact ⟨(show 0 < a.1 / 2 by omega), (show a.1 / 2 < a.1 by omega)⟩) 1999 s h0 h
theorem deq_nat (x y : Nat) : dEq (.int x) (.int y) = some (.bl (decide (x = y))) := by
  show some (D.bl (D.eqb (.int x) (.int y))) = _
  rw [eq_int]
theorem dne_nat (x y : Nat) : dNe (.int x) (.int y) = some (.bl (!decide (x = y))) := by
  show some (D.bl (!D.eqb (.int x) (.int y))) = _
  rw [eq_int]
theorem neg_if (c : Bool) (b : MS) {Γ Γ1 : En} {t : MT} (ht : t Γ = some c) (h1 : c = true → b Γ = some (.nx, Γ1)) (h2 : c = false → Γ = Γ1) : sIf t b sNx Γ = some (.nx, Γ1) := by
  cases c with
  | true => rw [sIf_t ht]; exact h1 rfl
  | false => rw [sIf_f ht, ← h2 rfl]; rfl
theorem i_body (s : S3) : (sSq (sAug 0 dDiv (mC (.int 2))) (sIf (mTB (mBin dIn (mBin dMod (mVarB 1) (mC (.int 8))) (mTup (mCons (mC (.int 3)) (mCons (mC (.int 5)) mNil))))) (sSet 2 (xV (mUn dNeg (mVarB 2)))) sNx)) (enS s) = some (.nx, enS (iF s)) := by
  obtain ⟨a, n, s⟩ := s
  refine (sSq_nx (Γ1 := [.val (.int (a / 2 : Nat)), .val (.int n), .val (.int s)]) rfl).trans (neg_if (decide (n % 8 = 3 ∨ n % 8 = 5)) _ ?_ ?_ ?_)
  · refine mTB_of ((mBin_of (x := .int (n % 8 : Nat)) (y := .tup [.int 3, .int 5]) rfl rfl).trans ?_)
    show some (D.bl (D.eqb (.int 3) (.int (n % 8 : Nat)) || (D.eqb (.int 5) (.int (n % 8 : Nat)) || false))) = _
    rw [show D.eqb (.int 3) (.int (n % 8 : Nat)) = decide (3 = n % 8) from eq_int, show D.eqb (.int 5) (.int (n % 8 : Nat)) = decide (5 = n % 8) from eq_int]
    by_cases h3 : n % 8 = 3
    · rw [decide_eq_true h3.symm, decide_eq_true (show n % 8 = 3 ∨ n % 8 = 5 from .inl h3)]; rfl
    · by_cases h5 : n % 8 = 5
      · rw [decide_eq_true h5.symm, decide_eq_true (show n % 8 = 3 ∨ n % 8 = 5 from .inr h5), decide_eq_false (Ne.symm h3)]; rfl
      · rw [decide_eq_false (Ne.symm h3), decide_eq_false (Ne.symm h5), decide_eq_false (by omega)]; rfl
  · intro h
    have h := of_decide_eq_true h
    show some (Fl.nx, [Slot.val (.int (a / 2 : Nat)), .val (.int n), .val (.int (-s))]) = some (Fl.nx, [Slot.val (.int (a / 2 : Nat)), .val (.int n), .val (.int (if n % 8 = 3 ∨ n % 8 = 5 then -s else s))])
    rw [if_pos h]
  · intro h
    have h := of_decide_eq_false h
    show [Slot.val (.int (a / 2 : Nat)), .val (.int n), .val (.int s)] = [Slot.val (.int (a / 2 : Nat)), .val (.int n), .val (.int (if n % 8 = 3 ∨ n % 8 = 5 then -s else s))]
    rw [if_neg h]
theorem o_body (s : S3) (h0 : 0 < s.1) (h1 : s.1 ≤ 1999) : (0 < (wh iT iF 1999 s).1 ∧ (wh iT iF 1999 s).1 ≤ s.1) ∧ (sSq (mWh (mTB (mBin dEq (mBin dMod (mVarB 0) (mC (.int 2))) (mC (.int 0)))) (sSq (sAug 0 dDiv (mC (.int 2))) (sIf (mTB (mBin dIn (mBin dMod (mVarB 1) (mC (.int 8))) (mTup (mCons (mC (.int 3)) (mCons (mC (.int 5)) mNil))))) (sSet 2 (xV (mUn dNeg (mVarB 2)))) sNx)) 2000) (sSq (sPar 0 1 (xV (mVar 1)) (xV (mVar 0))) (sSq (sIf (mtAnd (mTB (mBin dEq (mBin dMod (mVarB 0) (mC (.int 4))) (mC (.int 3)))) (mTB (mBin dEq (mBin dMod (mVarB 1) (mC (.int 4))) (mC (.int 3))))) (sSet 2 (xV (mUn dNeg (mVarB 2)))) sNx) (sAug 0 dMod (mVarB 1))))) (enS s) = some (.nx, enS (oF s)) := by
  obtain ⟨Γ', e, e2, p1, p2⟩ := wh_run (c := (mTB (mBin dEq (mBin dMod (mVarB 0) (mC (.int 2))) (mC (.int 0))))) (b := (sSq (sAug 0 dDiv (mC (.int 2))) (sIf (mTB (mBin dIn (mBin dMod (mVarB 1) (mC (.int 8))) (mTup (mCons (mC (.int 3)) (mCons (mC (.int 5)) mNil))))) (sSet 2 (xV (mUn dNeg (mVarB 2)))) sNx))) iT iF (fun t Γ => Γ = enS t) (fun t => 0 < t.1 ∧ t.1 ≤ s.1)
    (fun t Γ _ e => by
      subst e
      exact mTB_of ((mBin_of (x := .int (t.1 % 2 : Nat)) (y := .int (0 : Nat)) rfl rfl).trans (deq_nat _ _)))
    (fun t Γ p e h => by
      subst e
      have h : t.1 % 2 = 0 := of_decide_eq_true h
      obtain ⟨p1, p2⟩ := p
      exact ⟨⟨(show 0 < t.1 / 2 by omega), (show t.1 / 2 ≤ s.1 by omega)⟩, _, i_body t, rfl⟩) 1999 s _ ⟨h0, Nat.le_refl _⟩ rfl (i_end s h1 h0)
  subst e2
  refine ⟨⟨p1, p2⟩, (sSq_nx e).trans ?_⟩
  unfold oF
  generalize wh iT iF 1999 s = r at *
  obtain ⟨a, n, g⟩ := r
  have p1 : 0 < a := p1
  refine (sSq_nx (Γ1 := [.val (.int n), .val (.int a), .val (.int g)]) rfl).trans ((sSq_nx (Γ1 := [.val (.int n), .val (.int a), .val (.int (if n % 4 = 3 ∧ a % 4 = 3 then -g else g))]) (neg_if (decide (n % 4 = 3 ∧ a % 4 = 3)) _ ?_ ?_ ?_)).trans ?_)
  · have t1 : mTB (mBin dEq (mBin dMod (mVarB 0) (mC (.int 4))) (mC (.int 3))) [.val (.int n), .val (.int a), .val (.int g)] = some (decide (n % 4 = 3)) := mTB_of ((mBin_of (x := .int (n % 4 : Nat)) (y := .int (3 : Nat)) rfl rfl).trans (deq_nat _ _))
    have t2 : mTB (mBin dEq (mBin dMod (mVarB 1) (mC (.int 4))) (mC (.int 3))) [.val (.int n), .val (.int a), .val (.int g)] = some (decide (a % 4 = 3)) := mTB_of ((mBin_of (x := .int (a % 4 : Nat)) (y := .int (3 : Nat)) rfl rfl).trans (deq_nat _ _))
    unfold mtAnd
    rw [t1]
    by_cases h3 : n % 4 = 3
    · rw [decide_eq_true h3]
      rw [Option.bind_some, if_pos rfl, t2]
      by_cases h4 : a % 4 = 3
      · rw [decide_eq_true h4, decide_eq_true ⟨h3, h4⟩]
      · rw [decide_eq_false h4, decide_eq_false (fun h => h4 h.2)]
    · rw [decide_eq_false h3, decide_eq_false (fun h => h3 h.1)]; rfl
  · intro h
    rw [if_pos (of_decide_eq_true h)]; rfl
  · intro h
    rw [if_neg (of_decide_eq_false h)]
  · show (some (D.int n)).bind (fun x => (some (D.int a)).bind fun y => (dMod x y).map fun z => (Fl.nx, _)) = _
    rw [Option.bind_some, Option.bind_some, mod_nat p1]; rfl
theorem le_square_sign : LeF n_square_sign m_square_sign := by
  intro x r h
  unfold n_square_sign at h
  split at h
  · rename_i a n
    obtain ⟨c, rfl⟩ := if_someP h
    simp only [Bool.and_eq_true, decide_eq_true_eq] at c
    obtain ⟨h0, h1⟩ := c
    obtain ⟨n, rfl⟩ := Int.eq_ofNat_of_zero_le (Int.le_of_lt h0)
    have ha := Int.emod_nonneg a (show (n : Int) ≠ 0 by omega)
    obtain ⟨b, hb⟩ := Int.eq_ofNat_of_zero_le ha
    have hb2 : b < n := by have := Int.emod_lt_of_pos a h0; omega
    have en : oT (wh oT oF 1999 (b, n, 1)) = false := wh_end (P := fun s => s.1 ≤ 1999) Prod.fst (fun s p h => by
      have h : 0 < s.1 := of_decide_eq_true h
      obtain ⟨⟨q1, q2⟩, _⟩ := o_body s h p
      have q3 := Nat.mod_lt (wh iT iF 1999 s).2.1 q1
      exact ⟨(show (wh iT iF 1999 s).2.1 % (wh iT iF 1999 s).1 ≤ 1999 by have p : s.1 ≤ 1999 := p; omega), (show (wh iT iF 1999 s).2.1 % (wh iT iF 1999 s).1 < s.1 by omega)⟩) 1999 (b, n, 1) (show b ≤ 1999 by omega) (show b ≤ 1999 by omega)
    obtain ⟨Γ', e, e2, _⟩ := wh_run (c := (mTB (mBin dNe (mVarB 0) (mC (.int 0))))) (b := (sSq (mWh (mTB (mBin dEq (mBin dMod (mVarB 0) (mC (.int 2))) (mC (.int 0)))) (sSq (sAug 0 dDiv (mC (.int 2))) (sIf (mTB (mBin dIn (mBin dMod (mVarB 1) (mC (.int 8))) (mTup (mCons (mC (.int 3)) (mCons (mC (.int 5)) mNil))))) (sSet 2 (xV (mUn dNeg (mVarB 2)))) sNx)) 2000) (sSq (sPar 0 1 (xV (mVar 1)) (xV (mVar 0))) (sSq (sIf (mtAnd (mTB (mBin dEq (mBin dMod (mVarB 0) (mC (.int 4))) (mC (.int 3)))) (mTB (mBin dEq (mBin dMod (mVarB 1) (mC (.int 4))) (mC (.int 3))))) (sSet 2 (xV (mUn dNeg (mVarB 2)))) sNx) (sAug 0 dMod (mVarB 1)))))) oT oF (fun t Γ => Γ = enS t) (fun t => t.1 ≤ 1999)
      (fun t Γ _ e => by
        subst e
        refine mTB_of ((mBin_of (x := .int t.1) (y := .int (0 : Nat)) rfl rfl).trans ((dne_nat _ _).trans ?_))
        unfold oT
        by_cases h : t.1 = 0
        · rw [decide_eq_true h, decide_eq_false (by omega)]; rfl
        · rw [decide_eq_false h, decide_eq_true (by omega)]; rfl)
      (fun t Γ p e h => by
        subst e
        have h : 0 < t.1 := of_decide_eq_true h
        obtain ⟨⟨q1, q2⟩, q⟩ := o_body t h p
        have q3 := Nat.mod_lt (wh iT iF 1999 t).2.1 q1
        exact ⟨(show (wh iT iF 1999 t).2.1 % (wh iT iF 1999 t).1 ≤ 1999 by have p : t.1 ≤ 1999 := p; omega), _, q, rfl⟩) 1999 (b, n, 1) _ (show b ≤ 1999 by omega) rfl en
    subst e2
    refine run_q rfl ?_
    unfold b_square_sign
    refine q_par (Γ := [.val (.int a), .val (.int n), .emp]) (d := .int b) (e := .int 1) ((mod_of rfl rfl h0).trans (by rw [hb])) rfl (q_nx e (q_ret ?_))
    rw [hb]
    show mIf _ _ _ _ = some (D.int (signN b n))
    unfold signN
    generalize wh oT oF 1999 (b, n, 1) = r
    unfold mIf
    rw [mTB_of (t := decide (r.2.1 = 1)) ((mBin_of (x := .int r.2.1) (y := .int (1 : Nat)) rfl rfl).trans (deq_nat _ _))]
    by_cases h : r.2.1 = 1
    · rw [decide_eq_true h, if_pos h]; rfl
    · rw [decide_eq_false h, if_neg h]; rfl
  · cases h
end SK

set_option Elab.async false
set_option linter.all false
set_option maxRecDepth 100000
set_option maxHeartbeats 4000000
set_option autoImplicit false
namespace K76
open PySem PySem.Spec PyProof.Rows L2 SK
def topS (i : Nat) : Stmt := PySem.Challenge.pw_sealskept_k76_whole_all_put_together.main.body.getD i (.Pass ⟨0, 0, 0, 0⟩)
/-! what each def computes -/
def b_makers : MS :=
  (sSq (sSet 1 (xV (mCall dLen (mCons (mLc (mRng1 (mVarB 0)) (gN 2) (mTB (mBin dEq (mCall n_divisor (mCons (mVar 2) (mCons (mVar 0) mNil))) (mC (.int 1)))) (mC (.int 1)) [2]) mNil)))) (sRt (mCall dTuple (mCons (mLc (mRng1 (mVarB 0)) (gN 2) (mtAnd (mTB (mBin dEq (mCall n_divisor (mCons (mVar 2) (mCons (mVar 0) mNil))) (mC (.int 1)))) (mTB (mBin dEq (mCall n_round_of (mCons (mVar 2) (mCons (mVar 0) mNil))) (mVarB 1)))) (mVar 2) [2]) mNil))))
def m_makers : List D → Option D := runFn 1 3 b_makers
def b_is_round_ring : MS :=
  (sRt (mBin dGt (mCall dLen (mCons (mCall m_makers (mCons (mVar 0) mNil)) mNil)) (mC (.int 0))))
def m_is_round_ring : List D → Option D := runFn 1 1 b_is_round_ring
def b_is_square : MS :=
  (sRt (mBin dEq (mCall n_power_in (mCons (mVar 0) (mCons (mBin dDiv (mBin dSub (mVarB 1) (mC (.int 1))) (mC (.int 2))) (mCons (mVar 1) mNil)))) (mC (.int 1))))
def m_is_square : List D → Option D := runFn 2 2 b_is_square
def b_turned_in : MS :=
  (sRt (mCall n_power_in (mCons (mVar 0) (mCons (mBin dSub (mVarB 1) (mC (.int 2))) (mCons (mVar 1) mNil)))))
def m_turned_in : List D → Option D := runFn 2 2 b_turned_in
def b_curve_points : MS :=
  (sSq (sTg (gT (gsC (gN 1) (gsC (gN 2) (gsC (gN 3) gsN)))) (mVar 0)) (sRt (mCall dTuple (mCons (mLc2 (mRng1 (mVarB 3)) (gN 4) mYes (mRng1 (mVarB 3)) (gN 5) (mTB (mBin dEq (mBin dMod (mBin dSub (mBin dSub (mBin dSub (mBin dMulI (mVarB 5) (mVarB 5)) (mBin dMulI (mBin dMulI (mVarB 4) (mVarB 4)) (mVarB 4))) (mBin dMulI (mVarB 1) (mVarB 4))) (mVarB 2)) (mVarB 3)) (mC (.int 0)))) (mTup (mCons (mVar 4) (mCons (mVar 5) mNil))) [4, 5] [5]) mNil))))
def m_curve_points : List D → Option D := runFn 1 6 b_curve_points
def b_sum_of_points : MS :=
  (sSq (sTg (gT (gsC (gN 3) (gsC (gN 4) (gsC (gN 5) gsN)))) (mVar 0)) (sSq (sIf (mTB (mBin dIs (mVarB 1) (mC .non))) (sRt (mVar 2)) sNx) (sSq (sIf (mTB (mBin dIs (mVarB 2) (mC .non))) (sRt (mVar 1)) sNx) (sSq (sTg (gT (gsC (gT (gsC (gN 6) (gsC (gN 7) gsN))) (gsC (gT (gsC (gN 8) (gsC (gN 9) gsN))) gsN))) (mTup (mCons (mVar 1) (mCons (mVar 2) mNil)))) (sSq (sIf (mtAnd (mTB (mBin dEq (mVarB 6) (mVarB 8))) (mTB (mBin dEq (mBin dMod (mBin dAdd (mVarB 7) (mVarB 9)) (mVarB 5)) (mC (.int 0))))) (sRt (mC .non)) sNx) (sSq (sIf (mTB (mBin dEq (mVarB 1) (mVarB 2))) (sSet 10 (xV (mBin dMod (mBin dMulI (mBin dAdd (mBin dMulI (mBin dMulI (mC (.int 3)) (mVarB 6)) (mVarB 6)) (mVarB 3)) (mCall m_turned_in (mCons (mBin dMulI (mC (.int 2)) (mVarB 7)) (mCons (mVar 5) mNil)))) (mVarB 5)))) (sSet 10 (xV (mBin dMod (mBin dMulI (mBin dSub (mVarB 9) (mVarB 7)) (mCall m_turned_in (mCons (mBin dSub (mVarB 8) (mVarB 6)) (mCons (mVar 5) mNil)))) (mVarB 5))))) (sSq (sSet 11 (xV (mBin dMod (mBin dSub (mBin dSub (mBin dMulI (mVarB 10) (mVarB 10)) (mVarB 6)) (mVarB 8)) (mVarB 5)))) (sRt (mTup (mCons (mVar 11) (mCons (mBin dMod (mBin dSub (mBin dMulI (mVarB 10) (mBin dSub (mVarB 6) (mVarB 11))) (mVarB 7)) (mVarB 5)) mNil)))))))))))
def m_sum_of_points : List D → Option D := runFn 3 12 b_sum_of_points
def b_point_round : MS :=
  (sSq (sPar 2 3 (xV (mVar 1)) (xV (mC (.int 1)))) (sSq (mWh (mTB (mBin dIsNot (mVarB 2) (mC .non))) (sPar 2 3 (xV (mCall m_sum_of_points (mCons (mVar 0) (mCons (mVar 2) (mCons (mVar 1) mNil))))) (xV (mBin dAdd (mVarB 3) (mC (.int 1))))) 2000) (sRt (mVar 3))))
def m_point_round : List D → Option D := runFn 2 4 b_point_round
def b_turned_curve : MS :=
  (sSq (sTg (gT (gsC (gN 2) (gsC (gN 3) (gsC (gN 4) gsN)))) (mVar 0)) (sRt (mTup (mCons (mBin dMod (mBin dMulI (mBin dMulI (mVarB 2) (mVarB 1)) (mVarB 1)) (mVarB 4)) (mCons (mBin dMod (mBin dMulI (mBin dMulI (mBin dMulI (mVarB 3) (mVarB 1)) (mVarB 1)) (mVarB 1)) (mVarB 4)) (mCons (mVar 4) mNil))))))
def m_turned_curve : List D → Option D := runFn 2 5 b_turned_curve
def b__law_least : MS :=
  (sSq (sSet 1 (xV (mC (.int 1)))) (sSq (sFor (mItems (mVar 0)) (gN 2) (sSet 1 (xV (mBin dMulI (mBin dDiv (mVarB 1) (mCall n__law_common (mCons (mVar 1) (mCons (mVar 2) mNil)))) (mVarB 2))))) (sRt (mVar 1))))
def m__law_least : List D → Option D := runFn 1 3 b__law_least
def b__law_parts : MS :=
  (sSq (sPar 1 2 (xO (mLst mNil)) (xV (mVar 0))) (sSq (sFor (mRng2 (mC (.int 2)) (mBin dAdd (mVarB 0) (mC (.int 1)))) (gN 3) (sSq (sTg (gT (gsC (gN 4) (gsC (gN 5) gsN))) (mTup (mCons (mC (.int 0)) (mCons (mC (.int 1)) mNil)))) (sSq (sFor (mRng1 (mC (.int 6))) (gN 6) (sIf (mTB (mBin dEq (mBin dMod (mCall dInt1 (mCons (mVarB 2) mNil)) (mVarB 3)) (mC (.int 0)))) (sPar3 2 4 5 (xV (mBin dDiv (mVarB 2) (mVarB 3))) (xV (mBin dAdd (mVarB 4) (mC (.int 1)))) (xV (mBin dMulI (mVarB 5) (mVarB 3)))) sNx)) (sIf (mTB (mBin dGt (mVarB 4) (mC (.int 0)))) (sApp 1 (mTup (mCons (mVar 3) (mCons (mVar 4) (mCons (mVar 5) mNil))))) sNx)))) (sFrz 1 (sRt (mVar 1)))))
def m__law_parts : List D → Option D := runFn 1 7 b__law_parts
def b__law_greatest : MS :=
  (sSq (sIf (mtAnd (mTB (mBin dEq (mVarB 0) (mC (.int 2)))) (mTB (mBin dGt (mVarB 1) (mC (.int 2))))) (sRt (mBin dDiv (mVarB 2) (mC (.int 4)))) sNx) (sRt (mBin dSub (mVarB 2) (mBin dDiv (mVarB 2) (mVarB 0)))))
def m__law_greatest : List D → Option D := runFn 3 3 b__law_greatest
def b__law_ring_right : MS :=
  (sSq (sTg (gT (gsC (gN 3) (gsC (gN 4) gsN))) (mTup (mCons (mCall m__law_parts (mCons (mVar 0) mNil)) (mCons (mLc (mRng2 (mC (.int 1)) (mVarB 0)) (gN 2) (mTB (mBin dEq (mCall n__law_common (mCons (mVar 2) (mCons (mVar 0) mNil))) (mC (.int 1)))) (mVar 2) [2]) mNil)))) (sSq (sIf (mtNot (mTru (mCall (m__law_like 10) (mCons (mCall m_parts_of (mCons (mVar 0) mNil)) (mCons (mCall dTuple (mCons (mLc (mItems (mVar 3)) (gT (gsC (gN 11) (gsC (gN 12) (gsC (gN 13) gsN)))) mYes (mTup (mCons (mVar 11) (mCons (mVar 12) mNil))) [11, 12, 13]) mNil)) mNil))))) (sRt (mC (.bl false))) sNx) (sSq (sPar 5 6 (xV (mC (.int 1))) (xV (mBin dLt (mCall dLen (mCons (mLc (mItems (mVar 4)) (gN 2) (mTB (mBin dEq (mBin dMod (mCall dInt1 (mCons (mBin dMulI (mVarB 2) (mVarB 2)) mNil)) (mVarB 0)) (mC (.int 1)))) (mVar 2) [2]) mNil)) (mC (.int 3))))) (sSq (sFor (mItems (mVar 4)) (gN 2) (sSq (sIf (mtOr (mtNot (mTru (mCall m__law_is_int (mCons (mCall n_turned_number (mCons (mVar 2) (mCons (mVar 0) mNil))) mNil)))) (mTB (mBin dNe (mBin dMod (mCall dInt1 (mCons (mBin dMulI (mVarB 2) (mCall n_turned_number (mCons (mVar 2) (mCons (mVar 0) mNil)))) mNil)) (mVarB 0)) (mC (.int 1))))) (sRt (mC (.bl false))) sNx) (sSet 5 (xV (mBin dMod (mCall dInt1 (mCons (mBin dMulI (mVarB 5) (mVarB 2)) mNil)) (mVarB 0)))))) (sSq (sIf (mtOr (mtNot (mTru (mCall (m__law_like 10) (mCons (mCall m_is_round_ring (mCons (mVar 0) mNil)) (mCons (mVar 6) mNil))))) (mTB (mBin dNe (mVarB 5) (mBin dIx (mTup (mCons (mC (.int 1)) (mCons (mBin dSub (mVarB 0) (mC (.int 1))) mNil))) (mCall dInt1 (mCons (mVarB 6) mNil)))))) (sRt (mC (.bl false))) sNx) (sSq (sPar 7 8 (xV (mCall m_makers (mCons (mVar 0) mNil))) (xV (mC (.int 0)))) (sSq (sIf (mTru (mVarB 6)) (sSet 8 (xV (mCall dLen (mCons (mLc (mRng2 (mC (.int 1)) (mBin dAdd (mCall dLen (mCons (mVarB 4) mNil)) (mC (.int 1)))) (gN 14) (mTB (mBin dEq (mCall n__law_common (mCons (mVar 14) (mCons (mCall dLen (mCons (mVarB 4) mNil)) mNil))) (mC (.int 1)))) (mVar 14) [14]) mNil)))) sNx) (sSq (sIf (mtOr (mtNot (mTru (mUn (dIsi .tuple) (mVarB 7)))) (mTB (mBin dNe (mCall dLen (mCons (mVarB 7) mNil)) (mVarB 8)))) (sRt (mC (.bl false))) sNx) (sSq (sSet 9 (xV (mCall m__law_least (mCons (mLc (mItems (mVar 3)) (gT (gsC (gN 11) (gsC (gN 12) (gsC (gN 13) gsN)))) mYes (mCall m__law_greatest (mCons (mVar 11) (mCons (mVar 12) (mCons (mVar 13) mNil)))) [11, 12, 13]) mNil)))) (sSq (sSetF 10 (mLc (mItems (mVar 4)) (gN 2) mYes (mCall n_round_of (mCons (mVar 2) (mCons (mVar 0) mNil))) [2])) (sSq (sIf (mtOr (mtNot (mTru (mCall dAll (mCons (mLc (mItems (mVar 10)) (gN 15) mYes (mCall m__law_is_int (mCons (mVar 15) mNil)) [15]) mNil)))) (mTB (mBin dNe (mCall dMax1 (mCons (mVarB 10) mNil)) (mVarB 9)))) (sRt (mC (.bl false))) sNx) (sSq (sSet 2 (xV (mBin dIx (mVarB 4) (mBin dMod (mCall dInt1 (mCons (mVarB 1) mNil)) (mCall dLen (mCons (mVarB 4) mNil)))))) (sRt (mCall (m__law_like 10) (mCons (mCall n_round_of (mCons (mVar 2) (mCons (mVar 0) mNil))) (mCons (mCall m__law_least (mCons (mLc (mItems (mVar 3)) (gT (gsC (gN 11) (gsC (gN 12) (gsC (gN 13) gsN)))) mYes (mCall n_round_of (mCons (mBin dMod (mCall dInt1 (mCons (mVarB 2) mNil)) (mVarB 13)) (mCons (mVar 13) mNil))) [11, 12, 13]) mNil)) mNil))))))))))))))))
def m__law_ring_right : List D → Option D := runFn 2 16 b__law_ring_right
def b__law_side : MS :=
  (sSq (sTg (gT (gsC (gN 2) (gsC (gN 3) (gsC (gN 4) gsN)))) (mVar 0)) (sRt (mBin dMod (mCall dInt1 (mCons (mBin dAdd (mBin dAdd (mBin dMulI (mBin dMulI (mVarB 1) (mVarB 1)) (mVarB 1)) (mBin dMulI (mVarB 2) (mVarB 1))) (mVarB 3)) mNil)) (mVarB 4))))
def m__law_side : List D → Option D := runFn 2 5 b__law_side
def b__law_all_added : MS :=
  (sSq (sSet 2 (xV (mC .non))) (sSq (sFor (mItems (mVar 1)) (gN 3) (sSet 2 (xV (mCall m_sum_of_points (mCons (mVar 0) (mCons (mVar 2) (mCons (mVar 3) mNil))))))) (sRt (mVar 2))))
def m__law_all_added : List D → Option D := runFn 2 4 b__law_all_added
def b__law_curve_right : MS :=
  (sSq (sTg (gT (gsC (gN 2) (gsC (gN 3) (gsC (gN 4) gsN)))) (mVar 0)) (sSq (sPar 5 6 (xV (mC (.int 0))) (xV (mCall m_curve_points (mCons (mVar 0) mNil)))) (sSq (sSet 7 (xO (mLst mNil))) (sSq (sFor (mRng1 (mVarB 4)) (gN 8) (sSq (sExt 7 (mLc (mRng1 (mVarB 4)) (gN 16) (mTB (mBin dEq (mBin dMod (mCall dInt1 (mCons (mBin dSub (mBin dMulI (mVarB 16) (mVarB 16)) (mCall m__law_side (mCons (mVar 0) (mCons (mVar 8) mNil)))) mNil)) (mVarB 4)) (mC (.int 0)))) (mTup (mCons (mVar 8) (mCons (mVar 16) mNil))) [16])) (sSq (sSet 9 (xV (mCall n_square_sign (mCons (mCall m__law_side (mCons (mVar 0) (mCons (mVar 8) mNil))) (mCons (mVar 4) mNil))))) (sSq (sIf (mtOr (mtNot (mTru (mCall m__law_is_int (mCons (mVar 9) mNil)))) (mtNot (mTB (mChain dLt dLt (mUn dNeg (mC (.int 2))) (mVarB 9) (mC (.int 2)))))) (sRt (mC (.bl false))) sNx) (sSet 5 (xV (mBin dAdd (mVarB 5) (mVarB 9)))))))) (sSq (sIf (mtOr (mtNot (mTru (mCall (m__law_like 10) (mCons (mVar 6) (mCons (mCall dTuple (mCons (mVarB 7) mNil)) mNil))))) (mTB (mBin dNe (mCall dLen (mCons (mVarB 6) mNil)) (mBin dAdd (mVarB 4) (mVarB 5))))) (sRt (mC (.bl false))) sNx) (sSq (sIf (mtOr (mtAnd (mTB (mBin dEq (mVarB 2) (mC (.int 0)))) (mtAnd (mTB (mBin dEq (mBin dMod (mCall dInt1 (mCons (mVarB 4) mNil)) (mC (.int 3))) (mC (.int 2)))) (mTB (mBin dNe (mVarB 5) (mC (.int 0)))))) (mtAnd (mTB (mBin dEq (mVarB 3) (mC (.int 0)))) (mtAnd (mTB (mBin dEq (mBin dMod (mCall dInt1 (mCons (mVarB 4) mNil)) (mC (.int 4))) (mC (.int 3)))) (mTB (mBin dNe (mVarB 5) (mC (.int 0))))))) (sRt (mC (.bl false))) sNx) (sSq (sSet 10 (xV (mCall m_turned_curve (mCons (mVar 0) (mCons (mVar 1) mNil))))) (sSq (sIf (mtOr (mtNot (mTru (mUn (dIsi .tuple) (mVarB 10)))) (mtOr (mTB (mBin dNe (mCall dLen (mCons (mVarB 10) mNil)) (mC (.int 3)))) (mtNot (mTru (mCall dAll (mCons (mLc (mItems (mVar 10)) (gN 18) mYes (mCall m__law_is_int (mCons (mVar 18) mNil)) [18]) mNil)))))) (sRt (mC (.bl false))) sNx) (sSq (sIf (mtOr (mTB (mBin dNe (mBin dIx (mVarB 10) (mC (.int 2))) (mVarB 4))) (mtOr (mTB (mBin dNe (mBin dMod (mCall dInt1 (mCons (mBin dSub (mBin dIx (mVarB 10) (mC (.int 0))) (mBin dMulI (mBin dMulI (mVarB 2) (mVarB 1)) (mVarB 1))) mNil)) (mVarB 4)) (mC (.int 0)))) (mTB (mBin dNe (mBin dMod (mCall dInt1 (mCons (mBin dSub (mBin dIx (mVarB 10) (mC (.int 1))) (mBin dMulI (mBin dMulI (mBin dMulI (mVarB 3) (mVarB 1)) (mVarB 1)) (mVarB 1))) mNil)) (mVarB 4)) (mC (.int 0)))))) (sRt (mC (.bl false))) sNx) (sSq (sSet 11 (xV (mCall m_curve_points (mCons (mVar 10) mNil)))) (sSq (sIf (mtOr (mtNot (mTru (mUn (dIsi .tuple) (mVarB 11)))) (mTB (mBin dNe (mCall dLen (mCons (mVarB 11) mNil)) (mBin dSub (mVarB 4) (mVarB 5))))) (sRt (mC (.bl false))) sNx) (sSq (sFor (mItems (mTup (mCons (mTup (mCons (mVar 0) (mCons (mVar 6) mNil))) (mCons (mTup (mCons (mVar 10) (mCons (mVar 11) mNil))) mNil)))) (gT (gsC (gN 12) (gsC (gN 13) gsN))) (sSq (sPar 14 7 (xV (mLc (mItems (mVar 13)) (gN 17) (mTB (mBin dEq (mBin dIx (mVarB 17) (mC (.int 1))) (mC (.int 0)))) (mVar 17) [17])) (xV (mC .non))) (sSq (sIf (mTB (mBin dEq (mCall dLen (mCons (mVarB 14) mNil)) (mC (.int 1)))) (sSet 7 (xV (mBin dIx (mVarB 14) (mC (.int 0))))) sNx) (sSq (sSetF 15 (mLc (mItems (mCall dSorted (mCons (mLc (mItems (mVar 13)) (gT (gsC (gN 8) (gsC (gN 16) gsN))) mYes (mTup (mCons (mVar 16) (mCons (mVar 8) mNil))) [8, 16]) mNil))) (gT (gsC (gN 16) (gsC (gN 8) gsN))) mYes (mTup (mCons (mVar 8) (mCons (mVar 16) mNil))) [16, 8])) (sSq (sFrz 7 (sIf (mtOr (mtNot (mTru (mCall (m__law_like 10) (mCons (mCall m__law_all_added (mCons (mVar 12) (mCons (mVar 15) mNil))) (mCons (mVar 7) mNil))))) (mtNot (mTru (mCall (m__law_like 10) (mCons (mCall m__law_all_added (mCons (mVar 12) (mCons (mUn dRev (mVarB 15)) mNil))) (mCons (mVar 7) mNil)))))) (sRt (mC (.bl false))) sNx)) (sSq (sIf (mTB (mBin dNe (mBin dEq (mBin dMod (mCall dInt1 (mCons (mCall dLen (mCons (mVarB 13) mNil)) mNil)) (mC (.int 2))) (mC (.int 1))) (mBin dGt (mCall dLen (mCons (mVarB 14) mNil)) (mC (.int 0))))) (sRt (mC (.bl false))) sNx) (sIf (mtNot (mTru (mCall dAll (mCons (mLc (mItems (mVar 14)) (gN 17) mYes (mCall (m__law_like 10) (mCons (mCall m_point_round (mCons (mVar 12) (mCons (mVar 17) mNil))) (mCons (mC (.int 2)) mNil))) [17]) mNil)))) (sRt (mC (.bl false))) sNx))))))) (sRt (mC (.bl true)))))))))))))))
def m__law_curve_right : List D → Option D := runFn 2 19 b__law_curve_right
def b_law : MS :=
  (sSq (sSet 1 (xV (mCall m__law_row (mCons (mVar 0) (mCons (mC (.int 20)) mNil))))) (sSq (sIf (mtNot (mTru (mCall m__law_ring_right (mCons (mBin dAdd (mC (.int 2)) (mBin dMod (mCall dInt1 (mCons (mBin dIx (mVarB 1) (mC (.int 0))) mNil)) (mC (.int 59)))) (mCons (mCall dInt1 (mCons (mBin dIx (mVarB 1) (mC (.int 1))) mNil)) mNil))))) (sRt (mC (.bl false))) sNx) (sSq (sSet 2 (xV (mBin dIx (mTup (mCons (mC (.int 5)) (mCons (mC (.int 7)) (mCons (mC (.int 11)) (mCons (mC (.int 13)) (mCons (mC (.int 17)) (mCons (mC (.int 19)) (mCons (mC (.int 23)) mNil)))))))) (mBin dMod (mCall dInt1 (mCons (mBin dIx (mVarB 1) (mC (.int 2))) mNil)) (mC (.int 7)))))) (sSq (sPar 3 4 (xV (mBin dMod (mCall dInt1 (mCons (mBin dIx (mVarB 1) (mC (.int 3))) mNil)) (mVarB 2))) (xV (mBin dMod (mCall dInt1 (mCons (mBin dIx (mVarB 1) (mC (.int 4))) mNil)) (mVarB 2)))) (sSq (sIf (mTB (mBin dEq (mBin dMod (mCall dInt1 (mCons (mBin dIx (mVarB 1) (mC (.int 5))) mNil)) (mC (.int 4))) (mC (.int 1)))) (sSet 3 (xV (mC (.int 0)))) sNx) (sSq (sIf (mTB (mBin dEq (mBin dMod (mCall dInt1 (mCons (mBin dIx (mVarB 1) (mC (.int 5))) mNil)) (mC (.int 4))) (mC (.int 2)))) (sSet 4 (xV (mC (.int 0)))) sNx) (sSq (sIf (mTB (mBin dEq (mBin dMod (mCall dInt1 (mCons (mBin dAdd (mBin dMulI (mBin dMulI (mBin dMulI (mC (.int 4)) (mVarB 3)) (mVarB 3)) (mVarB 3)) (mBin dMulI (mBin dMulI (mC (.int 27)) (mVarB 4)) (mVarB 4))) mNil)) (mVarB 2)) (mC (.int 0)))) (sTg (gT (gsC (gN 3) (gsC (gN 4) gsN))) (mTup (mCons (mC (.int 0)) (mCons (mC (.int 1)) mNil)))) sNx) (sSq (sSetF 6 (mLc (mRng2 (mC (.int 1)) (mVarB 2)) (gN 5) (mtNot (mTru (mCall dAny (mCons (mLc (mRng1 (mVarB 2)) (gN 7) mYes (mBin dEq (mBin dMod (mCall dInt1 (mCons (mBin dSub (mBin dMulI (mVarB 7) (mVarB 7)) (mVarB 5)) mNil)) (mVarB 2)) (mC (.int 0))) [7]) mNil)))) (mVar 5) [5])) (sSq (sSet 5 (xV (mBin dIx (mVarB 6) (mBin dMod (mCall dInt1 (mCons (mBin dIx (mVarB 1) (mC (.int 6))) mNil)) (mCall dLen (mCons (mVarB 6) mNil)))))) (sRt (mAnd (mBin dIs (mCall m_is_square (mCons (mVar 5) (mCons (mVar 2) mNil))) (mC (.bl false))) (mCall m__law_curve_right (mCons (mTup (mCons (mVar 3) (mCons (mVar 4) (mCons (mVar 2) mNil)))) (mCons (mVar 5) mNil))))))))))))))
def m_law : List D → Option D := runFn 1 8 b_law
/-! where each def stands -/
structure Tx (K : PySem.W.Frag) (mg : Str → Option Value) where
  f_divisor : Addr
  fd_divisor : FuncData
  F_divisor : Fun K "divisor" "divisor" (topS 1) f_divisor fd_divisor
  g_divisor : mg "divisor" = some (.ref f_divisor)
  b_divisor : Binds K fd_divisor ["first", "second"] []
  f_turned_number : Addr
  fd_turned_number : FuncData
  F_turned_number : Fun K "turned_number" "turned_number" (topS 3) f_turned_number fd_turned_number
  g_turned_number : mg "turned_number" = some (.ref f_turned_number)
  b_turned_number : Binds K fd_turned_number ["a", "n"] []
  f_power_in : Addr
  fd_power_in : FuncData
  F_power_in : Fun K "power_in" "power_in" (topS 4) f_power_in fd_power_in
  g_power_in : mg "power_in" = some (.ref f_power_in)
  b_power_in : Binds K fd_power_in ["a", "e", "n"] []
  f_round_of : Addr
  fd_round_of : FuncData
  F_round_of : Fun K "round_of" "round_of" (topS 5) f_round_of fd_round_of
  g_round_of : mg "round_of" = some (.ref f_round_of)
  b_round_of : Binds K fd_round_of ["a", "n"] []
  f_makers : Addr
  fd_makers : FuncData
  F_makers : Fun K "makers" "makers" (topS 6) f_makers fd_makers
  g_makers : mg "makers" = some (.ref f_makers)
  b_makers : Binds K fd_makers ["n"] []
  f_is_round_ring : Addr
  fd_is_round_ring : FuncData
  F_is_round_ring : Fun K "is_round_ring" "is_round_ring" (topS 7) f_is_round_ring fd_is_round_ring
  g_is_round_ring : mg "is_round_ring" = some (.ref f_is_round_ring)
  b_is_round_ring : Binds K fd_is_round_ring ["n"] []
  f_is_square : Addr
  fd_is_square : FuncData
  F_is_square : Fun K "is_square" "is_square" (topS 8) f_is_square fd_is_square
  g_is_square : mg "is_square" = some (.ref f_is_square)
  b_is_square : Binds K fd_is_square ["a", "p"] []
  f_square_sign : Addr
  fd_square_sign : FuncData
  F_square_sign : Fun K "square_sign" "square_sign" (topS 9) f_square_sign fd_square_sign
  g_square_sign : mg "square_sign" = some (.ref f_square_sign)
  b_square_sign : Binds K fd_square_sign ["a", "n"] []
  f_parts_of : Addr
  fd_parts_of : FuncData
  F_parts_of : Fun K "parts_of" "parts_of" (topS 10) f_parts_of fd_parts_of
  g_parts_of : mg "parts_of" = some (.ref f_parts_of)
  b_parts_of : Binds K fd_parts_of ["n"] []
  f_turned_in : Addr
  fd_turned_in : FuncData
  F_turned_in : Fun K "turned_in" "turned_in" (topS 12) f_turned_in fd_turned_in
  g_turned_in : mg "turned_in" = some (.ref f_turned_in)
  b_turned_in : Binds K fd_turned_in ["a", "p"] []
  f_curve_points : Addr
  fd_curve_points : FuncData
  F_curve_points : Fun K "curve_points" "curve_points" (topS 13) f_curve_points fd_curve_points
  g_curve_points : mg "curve_points" = some (.ref f_curve_points)
  b_curve_points : Binds K fd_curve_points ["curve"] []
  f_sum_of_points : Addr
  fd_sum_of_points : FuncData
  F_sum_of_points : Fun K "sum_of_points" "sum_of_points" (topS 14) f_sum_of_points fd_sum_of_points
  g_sum_of_points : mg "sum_of_points" = some (.ref f_sum_of_points)
  b_sum_of_points : Binds K fd_sum_of_points ["curve", "first", "second"] []
  f_point_round : Addr
  fd_point_round : FuncData
  F_point_round : Fun K "point_round" "point_round" (topS 15) f_point_round fd_point_round
  g_point_round : mg "point_round" = some (.ref f_point_round)
  b_point_round : Binds K fd_point_round ["curve", "point"] []
  f_turned_curve : Addr
  fd_turned_curve : FuncData
  F_turned_curve : Fun K "turned_curve" "turned_curve" (topS 16) f_turned_curve fd_turned_curve
  g_turned_curve : mg "turned_curve" = some (.ref f_turned_curve)
  b_turned_curve : Binds K fd_turned_curve ["curve", "c"] []
  f__law_mixed : Addr
  fd__law_mixed : FuncData
  F__law_mixed : Fun K "_law_mixed" "_law_mixed" (topS 18) f__law_mixed fd__law_mixed
  g__law_mixed : mg "_law_mixed" = some (.ref f__law_mixed)
  b__law_mixed : Binds K fd__law_mixed ["script", "k"] []
  f__law_row : Addr
  fd__law_row : FuncData
  F__law_row : Fun K "_law_row" "_law_row" (topS 19) f__law_row fd__law_row
  g__law_row : mg "_law_row" = some (.ref f__law_row)
  b__law_row : Binds K fd__law_row ["script", "many"] []
  f__law_is_int : Addr
  fd__law_is_int : FuncData
  F__law_is_int : Fun K "_law_is_int" "_law_is_int" (topS 20) f__law_is_int fd__law_is_int
  g__law_is_int : mg "_law_is_int" = some (.ref f__law_is_int)
  b__law_is_int : Binds K fd__law_is_int ["value"] []
  f__law_like : Addr
  fd__law_like : FuncData
  F__law_like : Fun K "_law_like" "_law_like" (topS 21) f__law_like fd__law_like
  g__law_like : mg "_law_like" = some (.ref f__law_like)
  b__law_like : Binds K fd__law_like ["value", "due"] []
  f__law_common : Addr
  fd__law_common : FuncData
  F__law_common : Fun K "_law_common" "_law_common" (topS 22) f__law_common fd__law_common
  g__law_common : mg "_law_common" = some (.ref f__law_common)
  b__law_common : Binds K fd__law_common ["first", "second"] []
  f__law_least : Addr
  fd__law_least : FuncData
  F__law_least : Fun K "_law_least" "_law_least" (topS 23) f__law_least fd__law_least
  g__law_least : mg "_law_least" = some (.ref f__law_least)
  b__law_least : Binds K fd__law_least ["numbers"] []
  f__law_parts : Addr
  fd__law_parts : FuncData
  F__law_parts : Fun K "_law_parts" "_law_parts" (topS 24) f__law_parts fd__law_parts
  g__law_parts : mg "_law_parts" = some (.ref f__law_parts)
  b__law_parts : Binds K fd__law_parts ["n"] []
  f__law_greatest : Addr
  fd__law_greatest : FuncData
  F__law_greatest : Fun K "_law_greatest" "_law_greatest" (topS 25) f__law_greatest fd__law_greatest
  g__law_greatest : mg "_law_greatest" = some (.ref f__law_greatest)
  b__law_greatest : Binds K fd__law_greatest ["prime", "power", "size"] []
  f__law_ring_right : Addr
  fd__law_ring_right : FuncData
  F__law_ring_right : Fun K "_law_ring_right" "_law_ring_right" (topS 26) f__law_ring_right fd__law_ring_right
  g__law_ring_right : mg "_law_ring_right" = some (.ref f__law_ring_right)
  b__law_ring_right : Binds K fd__law_ring_right ["n", "draw"] []
  f__law_side : Addr
  fd__law_side : FuncData
  F__law_side : Fun K "_law_side" "_law_side" (topS 27) f__law_side fd__law_side
  g__law_side : mg "_law_side" = some (.ref f__law_side)
  b__law_side : Binds K fd__law_side ["curve", "x"] []
  f__law_all_added : Addr
  fd__law_all_added : FuncData
  F__law_all_added : Fun K "_law_all_added" "_law_all_added" (topS 28) f__law_all_added fd__law_all_added
  g__law_all_added : mg "_law_all_added" = some (.ref f__law_all_added)
  b__law_all_added : Binds K fd__law_all_added ["curve", "points"] []
  f__law_curve_right : Addr
  fd__law_curve_right : FuncData
  F__law_curve_right : Fun K "_law_curve_right" "_law_curve_right" (topS 29) f__law_curve_right fd__law_curve_right
  g__law_curve_right : mg "_law_curve_right" = some (.ref f__law_curve_right)
  b__law_curve_right : Binds K fd__law_curve_right ["curve", "c"] []
  f_law : Addr
  fd_law : FuncData
  F_law : Fun K "law" "law" (topS 30) f_law fd_law
  g_law : mg "law" = some (.ref f_law)
  b_law : Binds K fd_law ["script"] []
  z_abs : mg "abs" = none
  z_all : mg "all" = none
  z_any : mg "any" = none
  z_bool : mg "bool" = none
  z_int : mg "int" = none
  z_isinstance : mg "isinstance" = none
  z_len : mg "len" = none
  z_max : mg "max" = none
  z_range : mg "range" = none
  z_sorted : mg "sorted" = none
  z_str : mg "str" = none
  z_tuple : mg "tuple" = none
section
variable {P : Program} {w : World} {K : PySem.W.Frag} {mg : Str → Option Value} {base : Heap}
theorem sc_divisor : FnScope ["first", "second"] ["first", "second"] (defScope (topS 1)) := ⟨rfl, rfl, rfl, by decide +kernel, rfl, by decide +kernel, by decide +kernel⟩
theorem ok_divisor (T : Tx K mg) : FnOk P w K mg base CX0 1 T.f_divisor T.fd_divisor ["first", "second"] (spF K m_divisor) :=
  fn_ok T.F_divisor sc_divisor (fun cdv A outer s H E hr => by
    have nd := sc_divisor.nd
    have hu := hr.units
    exact (s_cons (s_par 0 1 rfl nd (toV (r_callB call_abs d_abs rfl T.z_abs (by decide +kernel) (r_bcons (r_varB 0) r_bnil))) (toV (r_callB call_abs d_abs rfl T.z_abs (by decide +kernel) (r_bcons (r_varB 1) r_bnil))) (by rfl))
    (s_cons (s_while 2000 PassesOwn.never (r_tcmp op_gt d_gt (r_varB 1) (toB r_int) (nomark _)) (s_one (s_par 0 1 rfl nd (toV (r_var 1)) (toV (r_bin op_mod d_mod (r_varB 0) (r_varB 1))) (by rfl))))
    (s_one (s_ret (r_var 0))))))
theorem okn_divisor (T : Tx K mg) : FnOk P w K mg base CX0 1 T.f_divisor T.fd_divisor ["first", "second"] (spF K n_divisor) := okLe (ok_divisor T) le_divisor
theorem sc_turned_number : FnScope ["a", "n", "x"] ["a", "n"] (defScope (topS 3)) := ⟨rfl, rfl, rfl, by decide +kernel, rfl, by decide +kernel, by decide +kernel⟩
theorem ok_turned_number (T : Tx K mg) : FnOk P w K mg base CX0 1 T.f_turned_number T.fd_turned_number ["a", "n"] (spF K m_turned_number) :=
  fn_ok T.F_turned_number sc_turned_number (fun cdv A outer s H E hr => by
    have nd := sc_turned_number.nd
    have hu := hr.units
    exact (s_cons (s_for PassesOwn.never rfl (i_rng1 rfl T.z_range (r_varB 1)) (g_n 2 nd) (s_one (s_if (r_tcmp (op_eqD hu) d_eq (toB (r_bin op_mod d_mod (toB (r_bin op_mul d_mulI (r_varB 0) (r_varB 2))) (r_varB 1))) (toB r_int) (nomark _)) (s_one (s_ret (r_var 2))) s_nil)))
    (s_one (s_ret r_non))))
theorem okn_turned_number (T : Tx K mg) : FnOk P w K mg base CX0 1 T.f_turned_number T.fd_turned_number ["a", "n"] (spF K n_turned_number) := okLe (ok_turned_number T) le_turned_number
theorem sc_power_in : FnScope ["a", "e", "n", "found", "base"] ["a", "e", "n"] (defScope (topS 4)) := ⟨rfl, rfl, rfl, by decide +kernel, rfl, by decide +kernel, by decide +kernel⟩
theorem ok_power_in (T : Tx K mg) : FnOk P w K mg base CX0 1 T.f_power_in T.fd_power_in ["a", "e", "n"] (spF K m_power_in) :=
  fn_ok T.F_power_in sc_power_in (fun cdv A outer s H E hr => by
    have nd := sc_power_in.nd
    have hu := hr.units
    exact (s_cons (s_par 3 4 rfl nd (toV (r_bin op_mod d_mod (toB r_int) (r_varB 2))) (toV (r_bin op_mod d_mod (r_varB 0) (r_varB 2))) (by rfl))
    (s_cons (s_while 2000 PassesOwn.never (r_tcmp op_gt d_gt (r_varB 1) (toB r_int) (nomark _)) (s_cons (s_if (r_tcmp (op_eqD hu) d_eq (toB (r_bin op_mod d_mod (r_varB 1) (toB r_int))) (toB r_int) (nomark _)) (s_one (s_set 3 nd (toV (r_bin op_mod d_mod (toB (r_bin op_mul d_mulI (r_varB 3) (r_varB 4))) (r_varB 2))))) s_nil)
    (s_one (s_par 4 1 rfl nd (toV (r_bin op_mod d_mod (toB (r_bin op_mul d_mulI (r_varB 4) (r_varB 4))) (r_varB 2))) (toV (r_bin op_fdiv d_div (r_varB 1) (toB r_int))) (by rfl)))))
    (s_one (s_ret (r_var 3))))))
theorem okn_power_in (T : Tx K mg) : FnOk P w K mg base CX0 1 T.f_power_in T.fd_power_in ["a", "e", "n"] (spF K n_power_in) := okLe (ok_power_in T) le_power_in
theorem sc_round_of : FnScope ["a", "n", "power", "e"] ["a", "n"] (defScope (topS 5)) := ⟨rfl, rfl, rfl, by decide +kernel, rfl, by decide +kernel, by decide +kernel⟩
theorem ok_round_of (T : Tx K mg) : FnOk P w K mg base CX0 1 T.f_round_of T.fd_round_of ["a", "n"] (spF K m_round_of) :=
  fn_ok T.F_round_of sc_round_of (fun cdv A outer s H E hr => by
    have nd := sc_round_of.nd
    have hu := hr.units
    exact (s_cons (s_set 2 nd (toV (r_bin op_mod d_mod (toB r_int) (r_varB 1))))
    (s_cons (s_for PassesOwn.never rfl (i_rng2 rfl T.z_range (toB r_int) (toB (r_bin op_addA d_add (r_varB 1) (toB r_int)))) (g_n 3 nd) (s_cons (s_set 2 nd (toV (r_bin op_mod d_mod (toB (r_bin op_mul d_mulI (r_varB 2) (r_varB 0))) (r_varB 1))))
    (s_one (s_if (r_tcmp (op_eqD hu) d_eq (r_varB 2) (toB (r_bin op_mod d_mod (toB r_int) (r_varB 1))) (nomark _)) (s_one (s_ret (r_var 3))) s_nil))))
    (s_one (s_ret r_non)))))
theorem okn_round_of (T : Tx K mg) : FnOk P w K mg base CX0 1 T.f_round_of T.fd_round_of ["a", "n"] (spF K n_round_of) := okLe (ok_round_of T) le_round_of
theorem sc_makers : FnScope ["n", "count", "a"] ["n"] (defScope (topS 6)) := ⟨rfl, rfl, rfl, by decide +kernel, rfl, by decide +kernel, by decide +kernel⟩
theorem ok_makers (T : Tx K mg) : FnOk P w K mg base CX0 2 T.f_makers T.fd_makers ["n"] (spF K m_makers) :=
  fn_ok T.F_makers sc_makers (fun cdv A outer s H E hr => by
    have nd := sc_makers.nd
    have hu := hr.units
    exact (s_cons (s_set 1 nd (toV (r_callB call_len d_len rfl T.z_len (by decide +kernel) (r_bcons (toB (ofN (r_lc (own := [("a", 2)]) rfl nd (i_rng1 rfl T.z_range (r_varB 0)) (blkOk_by (by kernel_rfl)) (fun _ _ _ _ _ => (g_n 2 nd)) (fun _ _ _ _ _ => (c_one (r_tcmp (op_eqD hu) d_eq (toB (r_call (okn_divisor T) (hr.mono (by decide)) rfl T.g_divisor T.F_divisor.kp T.b_divisor (r_pcons (r_var 2) (r_pcons (r_var 0) r_pnil)))) (toB r_int) (nomark _)))) (fun _ _ _ _ _ => r_int)))) r_bnil))))
    (s_one (s_ret (r_callT call_tuple_of d_tuple rfl T.z_tuple (by decide +kernel) (r_bcons (toB (ofN (r_lc (own := [("a", 2)]) rfl nd (i_rng1 rfl T.z_range (r_varB 0)) (blkOk_by (by kernel_rfl)) (fun _ _ _ _ _ => (g_n 2 nd)) (fun _ _ _ _ _ => (c_one (PW.pt (r_tand (r_tcmp (op_eqD hu) d_eq (toB (r_call (okn_divisor T) (hr.mono (by decide)) rfl T.g_divisor T.F_divisor.kp T.b_divisor (r_pcons (r_var 2) (r_pcons (r_var 0) r_pnil)))) (toB r_int) (nomark _)) (r_tand1 (r_tcmp (op_eqD hu) d_eq (toB (r_call (okn_round_of T) (hr.mono (by decide)) rfl T.g_round_of T.F_round_of.kp T.b_round_of (r_pcons (r_var 2) (r_pcons (r_var 0) r_pnil)))) (r_varB 1) (nomark _))))))) (fun _ _ _ _ _ => (r_var 2))))) r_bnil))))))
theorem sc_is_round_ring : FnScope ["n"] ["n"] (defScope (topS 7)) := ⟨rfl, rfl, rfl, by decide +kernel, rfl, by decide +kernel, by decide +kernel⟩
theorem ok_is_round_ring (T : Tx K mg) : FnOk P w K mg base CX0 3 T.f_is_round_ring T.fd_is_round_ring ["n"] (spF K m_is_round_ring) :=
  fn_ok T.F_is_round_ring sc_is_round_ring (fun cdv A outer s H E hr => by
    have nd := sc_is_round_ring.nd
    have hu := hr.units
    exact (s_one (s_ret (r_cmp op_gt d_gt (toB (r_callB call_len d_len rfl T.z_len (by decide +kernel) (r_bcons (toB (r_call (ok_makers T) (hr.mono (by decide)) rfl T.g_makers T.F_makers.kp T.b_makers (r_pcons (r_var 0) r_pnil))) r_bnil))) (toB r_int) (nomark _)))))
theorem sc_is_square : FnScope ["a", "p"] ["a", "p"] (defScope (topS 8)) := ⟨rfl, rfl, rfl, by decide +kernel, rfl, by decide +kernel, by decide +kernel⟩
theorem ok_is_square (T : Tx K mg) : FnOk P w K mg base CX0 2 T.f_is_square T.fd_is_square ["a", "p"] (spF K m_is_square) :=
  fn_ok T.F_is_square sc_is_square (fun cdv A outer s H E hr => by
    have nd := sc_is_square.nd
    have hu := hr.units
    exact (s_one (s_ret (r_cmp (op_eqD hu) d_eq (toB (r_call (okn_power_in T) (hr.mono (by decide)) rfl T.g_power_in T.F_power_in.kp T.b_power_in (r_pcons (r_var 0) (r_pcons (r_bin op_fdiv d_div (toB (r_bin op_sub d_sub (r_varB 1) (toB r_int))) (toB r_int)) (r_pcons (r_var 1) r_pnil))))) (toB r_int) (nomark _)))))
theorem sc_square_sign : FnScope ["a", "n", "sign"] ["a", "n"] (defScope (topS 9)) := ⟨rfl, rfl, rfl, by decide +kernel, rfl, by decide +kernel, by decide +kernel⟩
theorem ok_square_sign (T : Tx K mg) : FnOk P w K mg base CX0 1 T.f_square_sign T.fd_square_sign ["a", "n"] (spF K m_square_sign) :=
  fn_ok T.F_square_sign sc_square_sign (fun cdv A outer s H E hr => by
    have nd := sc_square_sign.nd
    have hu := hr.units
    exact (s_cons (s_par 0 2 rfl nd (toV (r_bin op_mod d_mod (r_varB 0) (r_varB 1))) (toV r_int) (by rfl))
    (s_cons (s_while 2000 PassesOwn.never (r_tcmp (op_neD hu) d_ne (r_varB 0) (toB r_int) (nomark _)) (s_cons (s_while 2000 PassesOwn.never (r_tcmp (op_eqD hu) d_eq (toB (r_bin op_mod d_mod (r_varB 0) (toB r_int))) (toB r_int) (nomark _)) (s_cons (s_aug 0 nd iop_fdiv d_div (toB r_int))
    (s_one (s_if (r_tcmp op_in_seq d_in (toB (r_bin op_mod d_mod (r_varB 1) (toB r_int))) (toB (r_tup (r_pcons r_int (r_pcons r_int r_pnil)))) (by with_unfolding_all rfl)) (s_one (s_set 2 nd (toV (r_neg (r_varB 2))))) s_nil))))
    (s_cons (s_par 0 1 rfl nd (toV (r_var 1)) (toV (r_var 0)) (by rfl))
    (s_cons (s_if (PW.pt (r_tand (r_tcmp (op_eqD hu) d_eq (toB (r_bin op_mod d_mod (r_varB 0) (toB r_int))) (toB r_int) (nomark _)) (r_tand1 (r_tcmp (op_eqD hu) d_eq (toB (r_bin op_mod d_mod (r_varB 1) (toB r_int))) (toB r_int) (nomark _))))) (s_one (s_set 2 nd (toV (r_neg (r_varB 2))))) s_nil)
    (s_one (s_aug 0 nd iop_mod d_mod (r_varB 1)))))))
    (s_one (s_ret (r_ifx (r_tcmp (op_eqD hu) d_eq (r_varB 1) (toB r_int) (nomark _)) (r_var 2) r_int))))))
theorem okn_square_sign (T : Tx K mg) : FnOk P w K mg base CX0 1 T.f_square_sign T.fd_square_sign ["a", "n"] (spF K n_square_sign) := okLe (ok_square_sign T) le_square_sign
theorem sc_parts_of : FnScope ["n", "found", "prime", "power"] ["n"] (defScope (topS 10)) := ⟨rfl, rfl, rfl, by decide +kernel, rfl, by decide +kernel, by decide +kernel⟩
theorem ok_parts_of (T : Tx K mg) : FnOk P w K mg base CX0 1 T.f_parts_of T.fd_parts_of ["n"] (spF K m_parts_of) :=
  fn_ok T.F_parts_of sc_parts_of (fun cdv A outer s H E hr => by
    have nd := sc_parts_of.nd
    have hu := hr.units
    exact (s_cons (s_par 1 2 rfl nd (toO (r_lstN r_pnil)) (toV r_int) (by rfl))
    (s_cons (s_while 2000 PassesOwn.never (r_tcmp op_gt d_gt (r_varB 0) (toB r_int) (nomark _)) (s_cons (s_set 3 nd (toV r_int))
    (s_cons (s_while 2000 PassesOwn.never (r_tcmp (op_eqD hu) d_eq (toB (r_bin op_mod d_mod (r_varB 0) (r_varB 2))) (toB r_int) (nomark _)) (s_one (s_par 0 3 rfl nd (toV (r_bin op_fdiv d_div (r_varB 0) (r_varB 2))) (toV (r_bin op_addA d_add (r_varB 3) (toB r_int))) (by rfl))))
    (s_cons (s_if (r_tru (r_varB 3)) (s_one (s_app (ps_expr (pe_bm PySem.F.plainAttrs_list PySem.F.slot_list_append PySem.F.type_list_append mt_append (pv 1) (pa_cons (r_tup (r_pcons (r_var 2) (r_pcons (r_var 3) r_pnil))) pa_nil))))) s_nil)
    (s_one (s_set 2 nd (toV (r_ifx (PW.pt (r_tor (r_tcmp op_le d_le (toB (r_bin op_mul d_mulI (r_varB 2) (r_varB 2))) (r_varB 0) (nomark _)) (r_tor1 (r_tcmp (op_eqD hu) d_eq (r_varB 0) (toB r_int) (nomark _))))) (r_bin op_addA d_add (r_varB 2) (toB r_int)) (r_var 0)))))))))
    (s_one (s_ret (r_callT call_tuple_of d_tuple rfl T.z_tuple (by decide +kernel) (r_bcons (r_varB 1) r_bnil)))))))
theorem sc_turned_in : FnScope ["a", "p"] ["a", "p"] (defScope (topS 12)) := ⟨rfl, rfl, rfl, by decide +kernel, rfl, by decide +kernel, by decide +kernel⟩
theorem ok_turned_in (T : Tx K mg) : FnOk P w K mg base CX0 2 T.f_turned_in T.fd_turned_in ["a", "p"] (spF K m_turned_in) :=
  fn_ok T.F_turned_in sc_turned_in (fun cdv A outer s H E hr => by
    have nd := sc_turned_in.nd
    have hu := hr.units
    exact (s_one (s_ret (r_call (okn_power_in T) (hr.mono (by decide)) rfl T.g_power_in T.F_power_in.kp T.b_power_in (r_pcons (r_var 0) (r_pcons (r_bin op_sub d_sub (r_varB 1) (toB r_int)) (r_pcons (r_var 1) r_pnil)))))))
theorem sc_curve_points : FnScope ["curve", "a", "b", "p", "x", "y"] ["curve"] (defScope (topS 13)) := ⟨rfl, rfl, rfl, by decide +kernel, rfl, by decide +kernel, by decide +kernel⟩
theorem ok_curve_points (T : Tx K mg) : FnOk P w K mg base CX0 1 T.f_curve_points T.fd_curve_points ["curve"] (spF K m_curve_points) :=
  fn_ok T.F_curve_points sc_curve_points (fun cdv A outer s H E hr => by
    have nd := sc_curve_points.nd
    have hu := hr.units
    exact (s_cons (s_tg (r_var 0) (g_t rfl (gs_c (g_n 1 nd) (gs_c (g_n 2 nd) (gs_c (g_n 3 nd) gs_n)))))
    (s_one (s_ret (r_callT call_tuple_of d_tuple rfl T.z_tuple (by decide +kernel) (r_bcons (toB (ofN (r_lc2 (own := [("x", 4), ("y", 5)]) (vs1 := [5]) rfl nd (i_rng1 rfl T.z_range (r_varB 3)) (blkOk_by (by kernel_rfl)) (by decide) (fun _ _ _ _ _ => (g_n 4 nd)) (fun _ _ _ _ _ => c_nil) (fun _ _ _ _ _ => (i_rng1 rfl T.z_range (r_varB 3))) (fun _ _ _ _ _ => (g_n 5 nd)) (fun _ _ _ _ _ => (c_one (r_tcmp (op_eqD hu) d_eq (toB (r_bin op_mod d_mod (toB (r_bin op_sub d_sub (toB (r_bin op_sub d_sub (toB (r_bin op_sub d_sub (toB (r_bin op_mul d_mulI (r_varB 5) (r_varB 5))) (toB (r_bin op_mul d_mulI (toB (r_bin op_mul d_mulI (r_varB 4) (r_varB 4))) (r_varB 4))))) (toB (r_bin op_mul d_mulI (r_varB 1) (r_varB 4))))) (r_varB 2))) (r_varB 3))) (toB r_int) (nomark _)))) (fun _ _ _ _ _ => (r_tup (r_pcons (r_var 4) (r_pcons (r_var 5) r_pnil))))))) r_bnil))))))
theorem sc_sum_of_points : FnScope ["curve", "first", "second", "a", "b", "p", "x", "y", "z", "w", "rise", "u"] ["curve", "first", "second"] (defScope (topS 14)) := ⟨rfl, rfl, rfl, by decide +kernel, rfl, by decide +kernel, by decide +kernel⟩
theorem ok_sum_of_points (T : Tx K mg) : FnOk P w K mg base CX0 3 T.f_sum_of_points T.fd_sum_of_points ["curve", "first", "second"] (spF K m_sum_of_points) :=
  fn_ok T.F_sum_of_points sc_sum_of_points (fun cdv A outer s H E hr => by
    have nd := sc_sum_of_points.nd
    have hu := hr.units
    exact (s_cons (s_tg (r_var 0) (g_t rfl (gs_c (g_n 3 nd) (gs_c (g_n 4 nd) (gs_c (g_n 5 nd) gs_n)))))
    (s_cons (s_if (r_tcmp op_isA d_is (r_varB 1) (toB r_non) (nomark _)) (s_one (s_ret (r_var 2))) s_nil)
    (s_cons (s_if (r_tcmp op_isA d_is (r_varB 2) (toB r_non) (nomark _)) (s_one (s_ret (r_var 1))) s_nil)
    (s_cons (s_tg (r_tup (r_pcons (r_var 1) (r_pcons (r_var 2) r_pnil))) (g_t rfl (gs_c (g_t rfl (gs_c (g_n 6 nd) (gs_c (g_n 7 nd) gs_n))) (gs_c (g_t rfl (gs_c (g_n 8 nd) (gs_c (g_n 9 nd) gs_n))) gs_n))))
    (s_cons (s_if (PW.pt (r_tand (r_tcmp (op_eqD hu) d_eq (r_varB 6) (r_varB 8) (nomark _)) (r_tand1 (r_tcmp (op_eqD hu) d_eq (toB (r_bin op_mod d_mod (toB (r_bin op_addA d_add (r_varB 7) (r_varB 9))) (r_varB 5))) (toB r_int) (nomark _))))) (s_one (s_ret r_non)) s_nil)
    (s_cons (s_if (r_tcmp (op_eqD hu) d_eq (r_varB 1) (r_varB 2) (nomark _)) (s_one (s_set 10 nd (toV (r_bin op_mod d_mod (toB (r_bin op_mul d_mulI (toB (r_bin op_addA d_add (toB (r_bin op_mul d_mulI (toB (r_bin op_mul d_mulI (toB r_int) (r_varB 6))) (r_varB 6))) (r_varB 3))) (toB (r_call (ok_turned_in T) (hr.mono (by decide)) rfl T.g_turned_in T.F_turned_in.kp T.b_turned_in (r_pcons (r_bin op_mul d_mulI (toB r_int) (r_varB 7)) (r_pcons (r_var 5) r_pnil)))))) (r_varB 5))))) (s_one (s_set 10 nd (toV (r_bin op_mod d_mod (toB (r_bin op_mul d_mulI (toB (r_bin op_sub d_sub (r_varB 9) (r_varB 7))) (toB (r_call (ok_turned_in T) (hr.mono (by decide)) rfl T.g_turned_in T.F_turned_in.kp T.b_turned_in (r_pcons (r_bin op_sub d_sub (r_varB 8) (r_varB 6)) (r_pcons (r_var 5) r_pnil)))))) (r_varB 5))))))
    (s_cons (s_set 11 nd (toV (r_bin op_mod d_mod (toB (r_bin op_sub d_sub (toB (r_bin op_sub d_sub (toB (r_bin op_mul d_mulI (r_varB 10) (r_varB 10))) (r_varB 6))) (r_varB 8))) (r_varB 5))))
    (s_one (s_ret (r_tup (r_pcons (r_var 11) (r_pcons (r_bin op_mod d_mod (toB (r_bin op_sub d_sub (toB (r_bin op_mul d_mulI (r_varB 10) (toB (r_bin op_sub d_sub (r_varB 6) (r_varB 11))))) (r_varB 7))) (r_varB 5)) r_pnil)))))))))))))
theorem sc_point_round : FnScope ["curve", "point", "here", "k"] ["curve", "point"] (defScope (topS 15)) := ⟨rfl, rfl, rfl, by decide +kernel, rfl, by decide +kernel, by decide +kernel⟩
theorem ok_point_round (T : Tx K mg) : FnOk P w K mg base CX0 4 T.f_point_round T.fd_point_round ["curve", "point"] (spF K m_point_round) :=
  fn_ok T.F_point_round sc_point_round (fun cdv A outer s H E hr => by
    have nd := sc_point_round.nd
    have hu := hr.units
    exact (s_cons (s_par 2 3 rfl nd (toV (r_var 1)) (toV r_int) (by rfl))
    (s_cons (s_while 2000 PassesOwn.never (r_tcmp op_isNotA d_isnot (r_varB 2) (toB r_non) (nomark _)) (s_one (s_par 2 3 rfl nd (toV (r_call (ok_sum_of_points T) (hr.mono (by decide)) rfl T.g_sum_of_points T.F_sum_of_points.kp T.b_sum_of_points (r_pcons (r_var 0) (r_pcons (r_var 2) (r_pcons (r_var 1) r_pnil))))) (toV (r_bin op_addA d_add (r_varB 3) (toB r_int))) (by rfl))))
    (s_one (s_ret (r_var 3))))))
theorem sc_turned_curve : FnScope ["curve", "c", "a", "b", "p"] ["curve", "c"] (defScope (topS 16)) := ⟨rfl, rfl, rfl, by decide +kernel, rfl, by decide +kernel, by decide +kernel⟩
theorem ok_turned_curve (T : Tx K mg) : FnOk P w K mg base CX0 1 T.f_turned_curve T.fd_turned_curve ["curve", "c"] (spF K m_turned_curve) :=
  fn_ok T.F_turned_curve sc_turned_curve (fun cdv A outer s H E hr => by
    have nd := sc_turned_curve.nd
    have hu := hr.units
    exact (s_cons (s_tg (r_var 0) (g_t rfl (gs_c (g_n 2 nd) (gs_c (g_n 3 nd) (gs_c (g_n 4 nd) gs_n)))))
    (s_one (s_ret (r_tup (r_pcons (r_bin op_mod d_mod (toB (r_bin op_mul d_mulI (toB (r_bin op_mul d_mulI (r_varB 2) (r_varB 1))) (r_varB 1))) (r_varB 4)) (r_pcons (r_bin op_mod d_mod (toB (r_bin op_mul d_mulI (toB (r_bin op_mul d_mulI (toB (r_bin op_mul d_mulI (r_varB 3) (r_varB 1))) (r_varB 1))) (r_varB 1))) (r_varB 4)) (r_pcons (r_var 4) r_pnil))))))))
theorem sc__law_mixed : FnScope ["script", "k", "cell", "first", "second", "third"] ["script", "k"] (defScope (topS 18)) := ⟨rfl, rfl, rfl, by decide +kernel, rfl, by decide +kernel, by decide +kernel⟩
theorem ok__law_mixed (T : Tx K mg) : FnOk P w K mg base CX0 1 T.f__law_mixed T.fd__law_mixed ["script", "k"] (spF K m__law_mixed) :=
  fn_ok T.F__law_mixed sc__law_mixed (fun cdv A outer s H E hr => by
    have nd := sc__law_mixed.nd
    have hu := hr.units
    exact (s_cons (s_set 2 nd (toV r_int))
    (s_cons (s_if (r_tcmp op_gt d_gt (toB (r_callB call_len d_len rfl T.z_len (by decide +kernel) (r_bcons (r_varB 0) r_bnil))) (toB r_int) (nomark _)) (s_one (s_set 2 nd (toV (r_ix (r_varB 0) (toB (r_bin op_mod d_mod (r_varB 1) (toB (r_callB call_len d_len rfl T.z_len (by decide +kernel) (r_bcons (r_varB 0) r_bnil))))))))) s_nil)
    (s_cons (s_set 3 nd (toV (r_bin op_mod d_mod (toB (r_callT call_int1 d_int1 rfl T.z_int (by decide +kernel) (r_bcons (toB (r_bin op_addA d_add (toB (r_bin op_addA d_add (toB (r_bin op_mul d_mulI (r_varB 2) (toB r_int))) (toB (r_bin op_mul d_mulI (r_varB 1) (toB r_int))))) (toB r_int))) r_bnil))) (toB r_int))))
    (s_cons (s_set 4 nd (toV (r_bin op_mod d_mod (toB (r_callT call_int1 d_int1 rfl T.z_int (by decide +kernel) (r_bcons (toB (r_bin op_addA d_add (toB (r_bin op_addA d_add (toB (r_bin op_mul d_mulI (r_varB 3) (r_varB 3))) (toB (r_bin op_fdiv d_div (r_varB 3) (toB r_int))))) (toB (r_bin op_mul d_mulI (r_varB 1) (toB r_int))))) r_bnil))) (toB r_int))))
    (s_cons (s_set 5 nd (toV (r_bin op_mod d_mod (toB (r_callT call_int1 d_int1 rfl T.z_int (by decide +kernel) (r_bcons (toB (r_bin op_addA d_add (toB (r_bin op_addA d_add (toB (r_bin op_mul d_mulI (r_varB 4) (r_varB 4))) (toB (r_bin op_fdiv d_div (r_varB 4) (toB r_int))))) (toB r_int))) r_bnil))) (toB r_int))))
    (s_one (s_ret (r_bin op_mod d_mod (toB (r_bin op_fdiv d_div (r_varB 5) (toB r_int))) (toB r_int))))))))))
theorem sc__law_row : FnScope ["script", "many", "big", "row", "k"] ["script", "many"] (defScope (topS 19)) := ⟨rfl, rfl, rfl, by decide +kernel, rfl, by decide +kernel, by decide +kernel⟩
theorem ok__law_row (T : Tx K mg) : FnOk P w K mg base CX0 2 T.f__law_row T.fd__law_row ["script", "many"] (spF K m__law_row) :=
  fn_ok T.F__law_row sc__law_row (fun cdv A outer s H E hr => by
    have nd := sc__law_row.nd
    have hu := hr.units
    exact (s_cons (s_set 2 nd (toV r_int))
    (s_cons (s_if (PW.pt (r_tand (r_tcmp op_gt d_gt (toB (r_callB call_len d_len rfl T.z_len (by decide +kernel) (r_bcons (r_varB 0) r_bnil))) (toB r_int) (nomark _)) (r_tand1 (r_tcmp op_ge d_ge (toB (r_ix (r_varB 0) (toB r_int))) (toB (r_bin op_pow d_pow (toB r_int) (toB r_int))) (nomark _))))) (s_one (s_set 2 nd (toV (r_ix (r_varB 0) (toB r_int))))) s_nil)
    (s_cons (s_set 3 nd (toO (r_lstN r_pnil)))
    (s_cons (s_for PassesOwn.never rfl (i_rng1 rfl T.z_range (r_varB 1)) (g_n 4 nd) (s_one (s_if (r_tcmp op_gt d_gt (r_varB 2) (toB r_int) (nomark _)) (s_cons (s_app (ps_expr (pe_bm PySem.F.plainAttrs_list PySem.F.slot_list_append PySem.F.type_list_append mt_append (pv 3) (pa_cons (r_bin op_mod d_mod (toB (r_callT call_int1 d_int1 rfl T.z_int (by decide +kernel) (r_bcons (r_varB 2) r_bnil))) (toB r_int)) pa_nil))))
    (s_one (s_set 2 nd (toV (r_bin op_fdiv d_div (r_varB 2) (toB r_int)))))) (s_one (s_app (ps_expr (pe_bm PySem.F.plainAttrs_list PySem.F.slot_list_append PySem.F.type_list_append mt_append (pv 3) (pa_cons (r_call (ok__law_mixed T) (hr.mono (by decide)) rfl T.g__law_mixed T.F__law_mixed.kp T.b__law_mixed (r_pcons (r_var 0) (r_pcons (r_var 4) r_pnil))) pa_nil))))))))
    (s_one (s_frz 3 (s_ret (r_var 3)))))))))
theorem sc__law_is_int : FnScope ["value"] ["value"] (defScope (topS 20)) := ⟨rfl, rfl, rfl, by decide +kernel, rfl, by decide +kernel, by decide +kernel⟩
theorem ok__law_is_int (T : Tx K mg) : FnOk P w K mg base CX0 1 T.f__law_is_int T.fd__law_is_int ["value"] (spF K m__law_is_int) :=
  fn_ok T.F__law_is_int sc__law_is_int (fun cdv A outer s H E hr => by
    have nd := sc__law_is_int.nd
    have hu := hr.units
    exact (s_one (s_ret (r_and (r_isi .int (r_varB 0) rfl T.z_isinstance rfl T.z_int (by decide +kernel)) (r_one (r_not (toB (r_isi .bool (r_varB 0) rfl T.z_isinstance rfl T.z_bool (by decide +kernel)))))))))
theorem sc__law_like : FnScope ["value", "due", "k"] ["value", "due"] (defScope (topS 21)) := ⟨rfl, rfl, rfl, by decide +kernel, rfl, by decide +kernel, by decide +kernel⟩
theorem ok__law_like (T : Tx K mg) : ∀ n : Nat, FnOk P w K mg base CX0 (2 + n) T.f__law_like T.fd__law_like ["value", "due"] (spF K (m__law_like n))
  | 0 => never_ok
  | n + 1 => by
    have ih : FnOk P w K mg base CX0 (2 + n) T.f__law_like T.fd__law_like ["value", "due"] (spF K (m__law_like n)) := ok__law_like T n
    refine fn_ok (k := 2 + n) T.F__law_like sc__law_like ?_
    exact fun cdv A outer s H E hr => by
      have nd := sc__law_like.nd
      have hu := hr.units
      exact (s_cons (s_if (r_tcmp op_isA d_is (r_varB 1) (toB r_non) (nomark _)) (s_one (s_ret (r_cmp op_isA d_is (r_varB 0) (toB r_non) (nomark _)))) s_nil)
      (s_cons (s_if (r_tru (toB (r_isi .bool (r_varB 1) rfl T.z_isinstance rfl T.z_bool (by decide +kernel)))) (s_one (s_ret (r_and (r_isi .bool (r_varB 0) rfl T.z_isinstance rfl T.z_bool (by decide +kernel)) (r_one (r_cmp (op_eqD hu) d_eq (r_varB 0) (r_varB 1) (nomark _)))))) s_nil)
      (s_cons (s_if (r_tru (toB (r_isi .tuple (r_varB 1) rfl T.z_isinstance rfl T.z_tuple (by decide +kernel)))) (s_cons (s_if (PW.pt (r_tor (r_tnot (r_tru (toB (r_isi .tuple (r_varB 0) rfl T.z_isinstance rfl T.z_tuple (by decide +kernel))))) (r_tor1 (r_tcmp (op_neD hu) d_ne (toB (r_callB call_len d_len rfl T.z_len (by decide +kernel) (r_bcons (r_varB 0) r_bnil))) (toB (r_callB call_len d_len rfl T.z_len (by decide +kernel) (r_bcons (r_varB 1) r_bnil))) (nomark _))))) (s_one (s_ret r_bl)) s_nil)
      (s_one (s_ret (r_callB (cr_all rfl) d_all rfl T.z_all (by decide +kernel) (r_bcons (toB (ofN (r_lc (own := [("k", 2)]) rfl nd (i_rng1 rfl T.z_range (toB (r_callB call_len d_len rfl T.z_len (by decide +kernel) (r_bcons (r_varB 1) r_bnil)))) (blkOk_by (by kernel_rfl)) (fun _ _ _ _ _ => (g_n 2 nd)) (fun _ _ _ _ _ => c_nil) (fun _ _ _ _ _ => (r_call ih (hr.mono (by omega)) rfl T.g__law_like T.F__law_like.kp T.b__law_like (r_pcons (r_ix (r_varB 0) (r_varB 2)) (r_pcons (r_ix (r_varB 1) (r_varB 2)) r_pnil))))))) r_bnil))))) s_nil)
      (s_cons (s_if (r_tru (toB (r_isi .str (r_varB 1) rfl T.z_isinstance rfl T.z_str (by decide +kernel)))) (s_one (s_ret (r_and (r_isi .str (r_varB 0) rfl T.z_isinstance rfl T.z_str (by decide +kernel)) (r_one (r_cmp (op_eqD hu) d_eq (r_varB 0) (r_varB 1) (nomark _)))))) s_nil)
      (s_one (s_ret (r_and (r_call (ok__law_is_int T) (hr.mono (by omega)) rfl T.g__law_is_int T.F__law_is_int.kp T.b__law_is_int (r_pcons (r_var 0) r_pnil)) (r_one (r_cmp (op_eqD hu) d_eq (r_varB 0) (r_varB 1) (nomark _))))))))))
theorem sc__law_common : FnScope ["first", "second", "k"] ["first", "second"] (defScope (topS 22)) := ⟨rfl, rfl, rfl, by decide +kernel, rfl, by decide +kernel, by decide +kernel⟩
theorem ok__law_common (T : Tx K mg) : FnOk P w K mg base CX0 1 T.f__law_common T.fd__law_common ["first", "second"] (spF K m__law_common) :=
  fn_ok T.F__law_common sc__law_common (fun cdv A outer s H E hr => by
    have nd := sc__law_common.nd
    have hu := hr.units
    exact (s_cons (s_par 0 1 rfl nd (toV (r_callB call_abs d_abs rfl T.z_abs (by decide +kernel) (r_bcons (r_varB 0) r_bnil))) (toV (r_callB call_abs d_abs rfl T.z_abs (by decide +kernel) (r_bcons (r_varB 1) r_bnil))) (by rfl))
    (s_cons (s_for PassesOwn.never rfl (i_rng1 rfl T.z_range (toB r_int)) (g_n 2 nd) (s_cons (s_if (r_tcmp (op_eqD hu) d_eq (r_varB 1) (toB r_int) (nomark _)) (s_one s_break) s_nil)
    (s_one (s_par 0 1 rfl nd (toV (r_var 1)) (toV (r_bin op_mod d_mod (toB (r_callT call_int1 d_int1 rfl T.z_int (by decide +kernel) (r_bcons (r_varB 0) r_bnil))) (r_varB 1))) (by rfl)))))
    (s_one (s_ret (r_var 0))))))
theorem okn__law_common (T : Tx K mg) : FnOk P w K mg base CX0 1 T.f__law_common T.fd__law_common ["first", "second"] (spF K n__law_common) := okLe (ok__law_common T) le__law_common
theorem sc__law_least : FnScope ["numbers", "found", "number"] ["numbers"] (defScope (topS 23)) := ⟨rfl, rfl, rfl, by decide +kernel, rfl, by decide +kernel, by decide +kernel⟩
theorem ok__law_least (T : Tx K mg) : FnOk P w K mg base CX0 2 T.f__law_least T.fd__law_least ["numbers"] (spF K m__law_least) :=
  fn_ok T.F__law_least sc__law_least (fun cdv A outer s H E hr => by
    have nd := sc__law_least.nd
    have hu := hr.units
    exact (s_cons (s_set 1 nd (toV r_int))
    (s_cons (s_for PassesOwn.never rfl (i_seq (r_var 0)) (g_n 2 nd) (s_one (s_set 1 nd (toV (r_bin op_mul d_mulI (toB (r_bin op_fdiv d_div (r_varB 1) (toB (r_call (okn__law_common T) (hr.mono (by decide)) rfl T.g__law_common T.F__law_common.kp T.b__law_common (r_pcons (r_var 1) (r_pcons (r_var 2) r_pnil)))))) (r_varB 2))))))
    (s_one (s_ret (r_var 1))))))
theorem sc__law_parts : FnScope ["n", "found", "left", "prime", "power", "size", "k"] ["n"] (defScope (topS 24)) := ⟨rfl, rfl, rfl, by decide +kernel, rfl, by decide +kernel, by decide +kernel⟩
theorem ok__law_parts (T : Tx K mg) : FnOk P w K mg base CX0 1 T.f__law_parts T.fd__law_parts ["n"] (spF K m__law_parts) :=
  fn_ok T.F__law_parts sc__law_parts (fun cdv A outer s H E hr => by
    have nd := sc__law_parts.nd
    have hu := hr.units
    exact (s_cons (s_par 1 2 rfl nd (toO (r_lstN r_pnil)) (toV (r_var 0)) (by rfl))
    (s_cons (s_for PassesOwn.never rfl (i_rng2 rfl T.z_range (toB r_int) (toB (r_bin op_addA d_add (r_varB 0) (toB r_int)))) (g_n 3 nd) (s_cons (s_tg (r_tup (r_pcons r_int (r_pcons r_int r_pnil))) (g_t rfl (gs_c (g_n 4 nd) (gs_c (g_n 5 nd) gs_n))))
    (s_cons (s_for PassesOwn.never rfl (i_rng1 rfl T.z_range (toB r_int)) (g_n 6 nd) (s_one (s_if (r_tcmp (op_eqD hu) d_eq (toB (r_bin op_mod d_mod (toB (r_callT call_int1 d_int1 rfl T.z_int (by decide +kernel) (r_bcons (r_varB 2) r_bnil))) (r_varB 3))) (toB r_int) (nomark _)) (s_one (s_par3 2 4 5 rfl nd (toV (r_bin op_fdiv d_div (r_varB 2) (r_varB 3))) (toV (r_bin op_addA d_add (r_varB 4) (toB r_int))) (toV (r_bin op_mul d_mulI (r_varB 5) (r_varB 3))) (by rfl))) s_nil)))
    (s_one (s_if (r_tcmp op_gt d_gt (r_varB 4) (toB r_int) (nomark _)) (s_one (s_app (ps_expr (pe_bm PySem.F.plainAttrs_list PySem.F.slot_list_append PySem.F.type_list_append mt_append (pv 1) (pa_cons (r_tup (r_pcons (r_var 3) (r_pcons (r_var 4) (r_pcons (r_var 5) r_pnil)))) pa_nil))))) s_nil)))))
    (s_one (s_frz 1 (s_ret (r_var 1)))))))
theorem sc__law_greatest : FnScope ["prime", "power", "size"] ["prime", "power", "size"] (defScope (topS 25)) := ⟨rfl, rfl, rfl, by decide +kernel, rfl, by decide +kernel, by decide +kernel⟩
theorem ok__law_greatest (T : Tx K mg) : FnOk P w K mg base CX0 1 T.f__law_greatest T.fd__law_greatest ["prime", "power", "size"] (spF K m__law_greatest) :=
  fn_ok T.F__law_greatest sc__law_greatest (fun cdv A outer s H E hr => by
    have nd := sc__law_greatest.nd
    have hu := hr.units
    exact (s_cons (s_if (PW.pt (r_tand (r_tcmp (op_eqD hu) d_eq (r_varB 0) (toB r_int) (nomark _)) (r_tand1 (r_tcmp op_gt d_gt (r_varB 1) (toB r_int) (nomark _))))) (s_one (s_ret (r_bin op_fdiv d_div (r_varB 2) (toB r_int)))) s_nil)
    (s_one (s_ret (r_bin op_sub d_sub (r_varB 2) (toB (r_bin op_fdiv d_div (r_varB 2) (r_varB 0))))))))
theorem sc__law_ring_right : FnScope ["n", "draw", "a", "parts", "units", "product", "lone", "told", "many", "most", "rounds", "prime", "power", "size", "e", "one"] ["n", "draw"] (defScope (topS 26)) := ⟨rfl, rfl, rfl, by decide +kernel, rfl, by decide +kernel, by decide +kernel⟩
theorem ok__law_ring_right (T : Tx K mg) : FnOk P w K mg base CX0 13 T.f__law_ring_right T.fd__law_ring_right ["n", "draw"] (spF K m__law_ring_right) :=
  fn_ok T.F__law_ring_right sc__law_ring_right (fun cdv A outer s H E hr => by
    have nd := sc__law_ring_right.nd
    have hu := hr.units
    exact (s_cons (s_tg (r_tup (r_pcons (r_call (ok__law_parts T) (hr.mono (by decide)) rfl T.g__law_parts T.F__law_parts.kp T.b__law_parts (r_pcons (r_var 0) r_pnil)) (r_pcons (ofN (r_lc (own := [("a", 2)]) rfl nd (i_rng2 rfl T.z_range (toB r_int) (r_varB 0)) (blkOk_by (by kernel_rfl)) (fun _ _ _ _ _ => (g_n 2 nd)) (fun _ _ _ _ _ => (c_one (r_tcmp (op_eqD hu) d_eq (toB (r_call (okn__law_common T) (hr.mono (by decide)) rfl T.g__law_common T.F__law_common.kp T.b__law_common (r_pcons (r_var 2) (r_pcons (r_var 0) r_pnil)))) (toB r_int) (nomark _)))) (fun _ _ _ _ _ => (r_var 2)))) r_pnil))) (g_t rfl (gs_c (g_n 3 nd) (gs_c (g_n 4 nd) gs_n))))
    (s_cons (s_if (r_tnot (r_tru (toB (r_call (ok__law_like T 10) (hr.mono (by decide)) rfl T.g__law_like T.F__law_like.kp T.b__law_like (r_pcons (r_call (ok_parts_of T) (hr.mono (by decide)) rfl T.g_parts_of T.F_parts_of.kp T.b_parts_of (r_pcons (r_var 0) r_pnil)) (r_pcons (r_callT call_tuple_of d_tuple rfl T.z_tuple (by decide +kernel) (r_bcons (toB (ofN (r_lc (own := [("prime", 11), ("power", 12), ("size", 13)]) rfl nd (i_seq (r_var 3)) (blkOk_by (by kernel_rfl)) (fun _ _ _ _ _ => (g_t rfl (gs_c (g_n 11 nd) (gs_c (g_n 12 nd) (gs_c (g_n 13 nd) gs_n))))) (fun _ _ _ _ _ => c_nil) (fun _ _ _ _ _ => (r_tup (r_pcons (r_var 11) (r_pcons (r_var 12) r_pnil))))))) r_bnil)) r_pnil)))))) (s_one (s_ret r_bl)) s_nil)
    (s_cons (s_par 5 6 rfl nd (toV r_int) (toV (r_cmp op_lt d_lt (toB (r_callB call_len d_len rfl T.z_len (by decide +kernel) (r_bcons (toB (ofN (r_lc (own := [("a", 2)]) rfl nd (i_seq (r_var 4)) (blkOk_by (by kernel_rfl)) (fun _ _ _ _ _ => (g_n 2 nd)) (fun _ _ _ _ _ => (c_one (r_tcmp (op_eqD hu) d_eq (toB (r_bin op_mod d_mod (toB (r_callT call_int1 d_int1 rfl T.z_int (by decide +kernel) (r_bcons (toB (r_bin op_mul d_mulI (r_varB 2) (r_varB 2))) r_bnil))) (r_varB 0))) (toB r_int) (nomark _)))) (fun _ _ _ _ _ => (r_var 2))))) r_bnil))) (toB r_int) (nomark _))) (by rfl))
    (s_cons (s_for PassesOwn.never rfl (i_seq (r_var 4)) (g_n 2 nd) (s_cons (s_if (PW.pt (r_tor (r_tnot (r_tru (toB (r_call (ok__law_is_int T) (hr.mono (by decide)) rfl T.g__law_is_int T.F__law_is_int.kp T.b__law_is_int (r_pcons (r_call (okn_turned_number T) (hr.mono (by decide)) rfl T.g_turned_number T.F_turned_number.kp T.b_turned_number (r_pcons (r_var 2) (r_pcons (r_var 0) r_pnil))) r_pnil))))) (r_tor1 (r_tcmp (op_neD hu) d_ne (toB (r_bin op_mod d_mod (toB (r_callT call_int1 d_int1 rfl T.z_int (by decide +kernel) (r_bcons (toB (r_bin op_mul d_mulI (r_varB 2) (toB (r_call (okn_turned_number T) (hr.mono (by decide)) rfl T.g_turned_number T.F_turned_number.kp T.b_turned_number (r_pcons (r_var 2) (r_pcons (r_var 0) r_pnil)))))) r_bnil))) (r_varB 0))) (toB r_int) (nomark _))))) (s_one (s_ret r_bl)) s_nil)
    (s_one (s_set 5 nd (toV (r_bin op_mod d_mod (toB (r_callT call_int1 d_int1 rfl T.z_int (by decide +kernel) (r_bcons (toB (r_bin op_mul d_mulI (r_varB 5) (r_varB 2))) r_bnil))) (r_varB 0)))))))
    (s_cons (s_if (PW.pt (r_tor (r_tnot (r_tru (toB (r_call (ok__law_like T 10) (hr.mono (by decide)) rfl T.g__law_like T.F__law_like.kp T.b__law_like (r_pcons (r_call (ok_is_round_ring T) (hr.mono (by decide)) rfl T.g_is_round_ring T.F_is_round_ring.kp T.b_is_round_ring (r_pcons (r_var 0) r_pnil)) (r_pcons (r_var 6) r_pnil)))))) (r_tor1 (r_tcmp (op_neD hu) d_ne (r_varB 5) (toB (r_ix (toB (r_tup (r_pcons r_int (r_pcons (r_bin op_sub d_sub (r_varB 0) (toB r_int)) r_pnil)))) (toB (r_callT call_int1 d_int1 rfl T.z_int (by decide +kernel) (r_bcons (r_varB 6) r_bnil))))) (nomark _))))) (s_one (s_ret r_bl)) s_nil)
    (s_cons (s_par 7 8 rfl nd (toV (r_call (ok_makers T) (hr.mono (by decide)) rfl T.g_makers T.F_makers.kp T.b_makers (r_pcons (r_var 0) r_pnil))) (toV r_int) (by rfl))
    (s_cons (s_if (r_tru (r_varB 6)) (s_one (s_set 8 nd (toV (r_callB call_len d_len rfl T.z_len (by decide +kernel) (r_bcons (toB (ofN (r_lc (own := [("e", 14)]) rfl nd (i_rng2 rfl T.z_range (toB r_int) (toB (r_bin op_addA d_add (toB (r_callB call_len d_len rfl T.z_len (by decide +kernel) (r_bcons (r_varB 4) r_bnil))) (toB r_int)))) (blkOk_by (by kernel_rfl)) (fun _ _ _ _ _ => (g_n 14 nd)) (fun _ _ _ _ _ => (c_one (r_tcmp (op_eqD hu) d_eq (toB (r_call (okn__law_common T) (hr.mono (by decide)) rfl T.g__law_common T.F__law_common.kp T.b__law_common (r_pcons (r_var 14) (r_pcons (r_callB call_len d_len rfl T.z_len (by decide +kernel) (r_bcons (r_varB 4) r_bnil)) r_pnil)))) (toB r_int) (nomark _)))) (fun _ _ _ _ _ => (r_var 14))))) r_bnil))))) s_nil)
    (s_cons (s_if (PW.pt (r_tor (r_tnot (r_tru (toB (r_isi .tuple (r_varB 7) rfl T.z_isinstance rfl T.z_tuple (by decide +kernel))))) (r_tor1 (r_tcmp (op_neD hu) d_ne (toB (r_callB call_len d_len rfl T.z_len (by decide +kernel) (r_bcons (r_varB 7) r_bnil))) (r_varB 8) (nomark _))))) (s_one (s_ret r_bl)) s_nil)
    (s_cons (s_set 9 nd (toV (r_call (ok__law_least T) (hr.mono (by decide)) rfl T.g__law_least T.F__law_least.kp T.b__law_least (r_pcons (ofN (r_lc (own := [("prime", 11), ("power", 12), ("size", 13)]) rfl nd (i_seq (r_var 3)) (blkOk_by (by kernel_rfl)) (fun _ _ _ _ _ => (g_t rfl (gs_c (g_n 11 nd) (gs_c (g_n 12 nd) (gs_c (g_n 13 nd) gs_n))))) (fun _ _ _ _ _ => c_nil) (fun _ _ _ _ _ => (r_call (ok__law_greatest T) (hr.mono (by decide)) rfl T.g__law_greatest T.F__law_greatest.kp T.b__law_greatest (r_pcons (r_var 11) (r_pcons (r_var 12) (r_pcons (r_var 13) r_pnil))))))) r_pnil))))
    (s_cons (s_setF (s_setLc (own := [("a", 2)]) 10 rfl nd (i_seq (r_var 4)) (blkOk_by (by kernel_rfl)) (fun _ _ _ _ _ => (g_n 2 nd)) (fun _ _ _ _ _ => c_nil) (fun _ _ _ _ _ => (r_call (okn_round_of T) (hr.mono (by decide)) rfl T.g_round_of T.F_round_of.kp T.b_round_of (r_pcons (r_var 2) (r_pcons (r_var 0) r_pnil)))) (sw_true rfl rfl rfl (by decide +kernel))))
    (s_cons (s_if (PW.pt (r_tor (r_tnot (r_tru (toB (r_callB (cr_all rfl) d_all rfl T.z_all (by decide +kernel) (r_bcons (toB (ofN (r_lc (own := [("one", 15)]) rfl nd (i_seq (r_var 10)) (blkOk_by (by kernel_rfl)) (fun _ _ _ _ _ => (g_n 15 nd)) (fun _ _ _ _ _ => c_nil) (fun _ _ _ _ _ => (r_call (ok__law_is_int T) (hr.mono (by decide)) rfl T.g__law_is_int T.F__law_is_int.kp T.b__law_is_int (r_pcons (r_var 15) r_pnil)))))) r_bnil))))) (r_tor1 (r_tcmp (op_neD hu) d_ne (toB (r_callB (cr_max rfl) d_max1 rfl T.z_max (by decide +kernel) (r_bcons (r_varB 10) r_bnil))) (r_varB 9) (nomark _))))) (s_one (s_ret r_bl)) s_nil)
    (s_cons (s_set 2 nd (toV (r_ix (r_varB 4) (toB (r_bin op_mod d_mod (toB (r_callT call_int1 d_int1 rfl T.z_int (by decide +kernel) (r_bcons (r_varB 1) r_bnil))) (toB (r_callB call_len d_len rfl T.z_len (by decide +kernel) (r_bcons (r_varB 4) r_bnil))))))))
    (s_one (s_ret (r_call (ok__law_like T 10) (hr.mono (by decide)) rfl T.g__law_like T.F__law_like.kp T.b__law_like (r_pcons (r_call (okn_round_of T) (hr.mono (by decide)) rfl T.g_round_of T.F_round_of.kp T.b_round_of (r_pcons (r_var 2) (r_pcons (r_var 0) r_pnil))) (r_pcons (r_call (ok__law_least T) (hr.mono (by decide)) rfl T.g__law_least T.F__law_least.kp T.b__law_least (r_pcons (ofN (r_lc (own := [("prime", 11), ("power", 12), ("size", 13)]) rfl nd (i_seq (r_var 3)) (blkOk_by (by kernel_rfl)) (fun _ _ _ _ _ => (g_t rfl (gs_c (g_n 11 nd) (gs_c (g_n 12 nd) (gs_c (g_n 13 nd) gs_n))))) (fun _ _ _ _ _ => c_nil) (fun _ _ _ _ _ => (r_call (okn_round_of T) (hr.mono (by decide)) rfl T.g_round_of T.F_round_of.kp T.b_round_of (r_pcons (r_bin op_mod d_mod (toB (r_callT call_int1 d_int1 rfl T.z_int (by decide +kernel) (r_bcons (r_varB 2) r_bnil))) (r_varB 13)) (r_pcons (r_var 13) r_pnil)))))) r_pnil)) r_pnil))))))))))))))))))
theorem sc__law_side : FnScope ["curve", "x", "a", "b", "p"] ["curve", "x"] (defScope (topS 27)) := ⟨rfl, rfl, rfl, by decide +kernel, rfl, by decide +kernel, by decide +kernel⟩
theorem ok__law_side (T : Tx K mg) : FnOk P w K mg base CX0 1 T.f__law_side T.fd__law_side ["curve", "x"] (spF K m__law_side) :=
  fn_ok T.F__law_side sc__law_side (fun cdv A outer s H E hr => by
    have nd := sc__law_side.nd
    have hu := hr.units
    exact (s_cons (s_tg (r_var 0) (g_t rfl (gs_c (g_n 2 nd) (gs_c (g_n 3 nd) (gs_c (g_n 4 nd) gs_n)))))
    (s_one (s_ret (r_bin op_mod d_mod (toB (r_callT call_int1 d_int1 rfl T.z_int (by decide +kernel) (r_bcons (toB (r_bin op_addA d_add (toB (r_bin op_addA d_add (toB (r_bin op_mul d_mulI (toB (r_bin op_mul d_mulI (r_varB 1) (r_varB 1))) (r_varB 1))) (toB (r_bin op_mul d_mulI (r_varB 2) (r_varB 1))))) (r_varB 3))) r_bnil))) (r_varB 4))))))
theorem sc__law_all_added : FnScope ["curve", "points", "here", "point"] ["curve", "points"] (defScope (topS 28)) := ⟨rfl, rfl, rfl, by decide +kernel, rfl, by decide +kernel, by decide +kernel⟩
theorem ok__law_all_added (T : Tx K mg) : FnOk P w K mg base CX0 4 T.f__law_all_added T.fd__law_all_added ["curve", "points"] (spF K m__law_all_added) :=
  fn_ok T.F__law_all_added sc__law_all_added (fun cdv A outer s H E hr => by
    have nd := sc__law_all_added.nd
    have hu := hr.units
    exact (s_cons (s_set 2 nd (toV r_non))
    (s_cons (s_for PassesOwn.never rfl (i_seq (r_var 1)) (g_n 3 nd) (s_one (s_set 2 nd (toV (r_call (ok_sum_of_points T) (hr.mono (by decide)) rfl T.g_sum_of_points T.F_sum_of_points.kp T.b_sum_of_points (r_pcons (r_var 0) (r_pcons (r_var 2) (r_pcons (r_var 3) r_pnil))))))))
    (s_one (s_ret (r_var 2))))))
theorem sc__law_curve_right : FnScope ["curve", "c", "a", "b", "p", "signs", "points", "due", "x", "sign", "other", "others", "own", "rows", "lone", "turned", "y", "point", "one"] ["curve", "c"] (defScope (topS 29)) := ⟨rfl, rfl, rfl, by decide +kernel, rfl, by decide +kernel, by decide +kernel⟩
theorem ok__law_curve_right (T : Tx K mg) : FnOk P w K mg base CX0 13 T.f__law_curve_right T.fd__law_curve_right ["curve", "c"] (spF K m__law_curve_right) :=
  fn_ok T.F__law_curve_right sc__law_curve_right (fun cdv A outer s H E hr => by
    have nd := sc__law_curve_right.nd
    have hu := hr.units
    exact (s_cons (s_tg (r_var 0) (g_t rfl (gs_c (g_n 2 nd) (gs_c (g_n 3 nd) (gs_c (g_n 4 nd) gs_n)))))
    (s_cons (s_par 5 6 rfl nd (toV r_int) (toV (r_call (ok_curve_points T) (hr.mono (by decide)) rfl T.g_curve_points T.F_curve_points.kp T.b_curve_points (r_pcons (r_var 0) r_pnil))) (by rfl))
    (s_cons (s_set 7 nd (toO (r_lstN r_pnil)))
    (s_cons (s_for PassesOwn.never rfl (i_rng1 rfl T.z_range (r_varB 4)) (g_n 8 nd) (s_cons (s_ext (ps_expr (pe_bm PySem.F.plainAttrs_list PySem.F.slot_list_extend PySem.F.type_list_extend mt_extend (pv 7) (pa_cons (toB (ofN (r_lc (own := [("y", 16)]) rfl nd (i_rng1 rfl T.z_range (r_varB 4)) (blkOk_by (by kernel_rfl)) (fun _ _ _ _ _ => (g_n 16 nd)) (fun _ _ _ _ _ => (c_one (r_tcmp (op_eqD hu) d_eq (toB (r_bin op_mod d_mod (toB (r_callT call_int1 d_int1 rfl T.z_int (by decide +kernel) (r_bcons (toB (r_bin op_sub d_sub (toB (r_bin op_mul d_mulI (r_varB 16) (r_varB 16))) (toB (r_call (ok__law_side T) (hr.mono (by decide)) rfl T.g__law_side T.F__law_side.kp T.b__law_side (r_pcons (r_var 0) (r_pcons (r_var 8) r_pnil)))))) r_bnil))) (r_varB 4))) (toB r_int) (nomark _)))) (fun _ _ _ _ _ => (r_tup (r_pcons (r_var 8) (r_pcons (r_var 16) r_pnil))))))) pa_nil))))
    (s_cons (s_set 9 nd (toV (r_call (okn_square_sign T) (hr.mono (by decide)) rfl T.g_square_sign T.F_square_sign.kp T.b_square_sign (r_pcons (r_call (ok__law_side T) (hr.mono (by decide)) rfl T.g__law_side T.F__law_side.kp T.b__law_side (r_pcons (r_var 0) (r_pcons (r_var 8) r_pnil))) (r_pcons (r_var 4) r_pnil)))))
    (s_cons (s_if (PW.pt (r_tor (r_tnot (r_tru (toB (r_call (ok__law_is_int T) (hr.mono (by decide)) rfl T.g__law_is_int T.F__law_is_int.kp T.b__law_is_int (r_pcons (r_var 9) r_pnil))))) (r_tor1 (r_tnot (r_tchain op_lt d_lt op_lt d_lt (toB (r_neg (toB r_int))) (r_varB 9) (toB r_int)))))) (s_one (s_ret r_bl)) s_nil)
    (s_one (s_set 5 nd (toV (r_bin op_addA d_add (r_varB 5) (r_varB 9)))))))))
    (s_cons (s_if (PW.pt (r_tor (r_tnot (r_tru (toB (r_call (ok__law_like T 10) (hr.mono (by decide)) rfl T.g__law_like T.F__law_like.kp T.b__law_like (r_pcons (r_var 6) (r_pcons (r_callT call_tuple_of d_tuple rfl T.z_tuple (by decide +kernel) (r_bcons (r_varB 7) r_bnil)) r_pnil)))))) (r_tor1 (r_tcmp (op_neD hu) d_ne (toB (r_callB call_len d_len rfl T.z_len (by decide +kernel) (r_bcons (r_varB 6) r_bnil))) (toB (r_bin op_addA d_add (r_varB 4) (r_varB 5))) (nomark _))))) (s_one (s_ret r_bl)) s_nil)
    (s_cons (s_if (PW.pt (r_tor (PW.pt (r_tand (r_tcmp (op_eqD hu) d_eq (r_varB 2) (toB r_int) (nomark _)) (r_tand (r_tcmp (op_eqD hu) d_eq (toB (r_bin op_mod d_mod (toB (r_callT call_int1 d_int1 rfl T.z_int (by decide +kernel) (r_bcons (r_varB 4) r_bnil))) (toB r_int))) (toB r_int) (nomark _)) (r_tand1 (r_tcmp (op_neD hu) d_ne (r_varB 5) (toB r_int) (nomark _)))))) (r_tor1 (PW.pt (r_tand (r_tcmp (op_eqD hu) d_eq (r_varB 3) (toB r_int) (nomark _)) (r_tand (r_tcmp (op_eqD hu) d_eq (toB (r_bin op_mod d_mod (toB (r_callT call_int1 d_int1 rfl T.z_int (by decide +kernel) (r_bcons (r_varB 4) r_bnil))) (toB r_int))) (toB r_int) (nomark _)) (r_tand1 (r_tcmp (op_neD hu) d_ne (r_varB 5) (toB r_int) (nomark _))))))))) (s_one (s_ret r_bl)) s_nil)
    (s_cons (s_set 10 nd (toV (r_call (ok_turned_curve T) (hr.mono (by decide)) rfl T.g_turned_curve T.F_turned_curve.kp T.b_turned_curve (r_pcons (r_var 0) (r_pcons (r_var 1) r_pnil)))))
    (s_cons (s_if (PW.pt (r_tor (r_tnot (r_tru (toB (r_isi .tuple (r_varB 10) rfl T.z_isinstance rfl T.z_tuple (by decide +kernel))))) (r_tor (r_tcmp (op_neD hu) d_ne (toB (r_callB call_len d_len rfl T.z_len (by decide +kernel) (r_bcons (r_varB 10) r_bnil))) (toB r_int) (nomark _)) (r_tor1 (r_tnot (r_tru (toB (r_callB (cr_all rfl) d_all rfl T.z_all (by decide +kernel) (r_bcons (toB (ofN (r_lc (own := [("one", 18)]) rfl nd (i_seq (r_var 10)) (blkOk_by (by kernel_rfl)) (fun _ _ _ _ _ => (g_n 18 nd)) (fun _ _ _ _ _ => c_nil) (fun _ _ _ _ _ => (r_call (ok__law_is_int T) (hr.mono (by decide)) rfl T.g__law_is_int T.F__law_is_int.kp T.b__law_is_int (r_pcons (r_var 18) r_pnil)))))) r_bnil))))))))) (s_one (s_ret r_bl)) s_nil)
    (s_cons (s_if (PW.pt (r_tor (r_tcmp (op_neD hu) d_ne (toB (r_ix (r_varB 10) (toB r_int))) (r_varB 4) (nomark _)) (r_tor (r_tcmp (op_neD hu) d_ne (toB (r_bin op_mod d_mod (toB (r_callT call_int1 d_int1 rfl T.z_int (by decide +kernel) (r_bcons (toB (r_bin op_sub d_sub (toB (r_ix (r_varB 10) (toB r_int))) (toB (r_bin op_mul d_mulI (toB (r_bin op_mul d_mulI (r_varB 2) (r_varB 1))) (r_varB 1))))) r_bnil))) (r_varB 4))) (toB r_int) (nomark _)) (r_tor1 (r_tcmp (op_neD hu) d_ne (toB (r_bin op_mod d_mod (toB (r_callT call_int1 d_int1 rfl T.z_int (by decide +kernel) (r_bcons (toB (r_bin op_sub d_sub (toB (r_ix (r_varB 10) (toB r_int))) (toB (r_bin op_mul d_mulI (toB (r_bin op_mul d_mulI (toB (r_bin op_mul d_mulI (r_varB 3) (r_varB 1))) (r_varB 1))) (r_varB 1))))) r_bnil))) (r_varB 4))) (toB r_int) (nomark _)))))) (s_one (s_ret r_bl)) s_nil)
    (s_cons (s_set 11 nd (toV (r_call (ok_curve_points T) (hr.mono (by decide)) rfl T.g_curve_points T.F_curve_points.kp T.b_curve_points (r_pcons (r_var 10) r_pnil))))
    (s_cons (s_if (PW.pt (r_tor (r_tnot (r_tru (toB (r_isi .tuple (r_varB 11) rfl T.z_isinstance rfl T.z_tuple (by decide +kernel))))) (r_tor1 (r_tcmp (op_neD hu) d_ne (toB (r_callB call_len d_len rfl T.z_len (by decide +kernel) (r_bcons (r_varB 11) r_bnil))) (toB (r_bin op_sub d_sub (r_varB 4) (r_varB 5))) (nomark _))))) (s_one (s_ret r_bl)) s_nil)
    (s_cons (s_for PassesOwn.never rfl (i_seq (r_tup (r_pcons (r_tup (r_pcons (r_var 0) (r_pcons (r_var 6) r_pnil))) (r_pcons (r_tup (r_pcons (r_var 10) (r_pcons (r_var 11) r_pnil))) r_pnil)))) (g_t rfl (gs_c (g_n 12 nd) (gs_c (g_n 13 nd) gs_n))) (s_cons (s_par 14 7 rfl nd (toV (ofN (r_lc (own := [("point", 17)]) rfl nd (i_seq (r_var 13)) (blkOk_by (by kernel_rfl)) (fun _ _ _ _ _ => (g_n 17 nd)) (fun _ _ _ _ _ => (c_one (r_tcmp (op_eqD hu) d_eq (toB (r_ix (r_varB 17) (toB r_int))) (toB r_int) (nomark _)))) (fun _ _ _ _ _ => (r_var 17))))) (toV r_non) (by rfl))
    (s_cons (s_if (r_tcmp (op_eqD hu) d_eq (toB (r_callB call_len d_len rfl T.z_len (by decide +kernel) (r_bcons (r_varB 14) r_bnil))) (toB r_int) (nomark _)) (s_one (s_set 7 nd (toV (r_ix (r_varB 14) (toB r_int))))) s_nil)
    (s_cons (s_setF (s_setLc (own := [("y", 16), ("x", 8)]) 15 rfl nd (i_seq (ofN (r_callBN op_sorted d_sorted rfl T.z_sorted (by decide +kernel) (r_bcons (toB (ofN (r_lc (own := [("x", 8), ("y", 16)]) rfl nd (i_seq (r_var 13)) (blkOk_by (by kernel_rfl)) (fun _ _ _ _ _ => (g_t rfl (gs_c (g_n 8 nd) (gs_c (g_n 16 nd) gs_n)))) (fun _ _ _ _ _ => c_nil) (fun _ _ _ _ _ => (r_tup (r_pcons (r_var 16) (r_pcons (r_var 8) r_pnil))))))) r_bnil)))) (blkOk_by (by kernel_rfl)) (fun _ _ _ _ _ => (g_t rfl (gs_c (g_n 16 nd) (gs_c (g_n 8 nd) gs_n)))) (fun _ _ _ _ _ => c_nil) (fun _ _ _ _ _ => (r_tup (r_pcons (r_var 8) (r_pcons (r_var 16) r_pnil)))) (sw_true rfl rfl rfl (by decide +kernel))))
    (s_cons (s_frz 7 (s_if (PW.pt (r_tor (r_tnot (r_tru (toB (r_call (ok__law_like T 10) (hr.mono (by decide)) rfl T.g__law_like T.F__law_like.kp T.b__law_like (r_pcons (r_call (ok__law_all_added T) (hr.mono (by decide)) rfl T.g__law_all_added T.F__law_all_added.kp T.b__law_all_added (r_pcons (r_var 12) (r_pcons (r_var 15) r_pnil))) (r_pcons (r_var 7) r_pnil)))))) (r_tor1 (r_tnot (r_tru (toB (r_call (ok__law_like T 10) (hr.mono (by decide)) rfl T.g__law_like T.F__law_like.kp T.b__law_like (r_pcons (r_call (ok__law_all_added T) (hr.mono (by decide)) rfl T.g__law_all_added T.F__law_all_added.kp T.b__law_all_added (r_pcons (r_var 12) (r_pcons (r_rev (r_varB 15)) r_pnil))) (r_pcons (r_var 7) r_pnil))))))))) (s_one (s_ret r_bl)) s_nil))
    (s_cons (s_if (r_tcmp (op_neD hu) d_ne (toB (r_cmp (op_eqD hu) d_eq (toB (r_bin op_mod d_mod (toB (r_callT call_int1 d_int1 rfl T.z_int (by decide +kernel) (r_bcons (toB (r_callB call_len d_len rfl T.z_len (by decide +kernel) (r_bcons (r_varB 13) r_bnil))) r_bnil))) (toB r_int))) (toB r_int) (nomark _))) (toB (r_cmp op_gt d_gt (toB (r_callB call_len d_len rfl T.z_len (by decide +kernel) (r_bcons (r_varB 14) r_bnil))) (toB r_int) (nomark _))) (nomark _)) (s_one (s_ret r_bl)) s_nil)
    (s_one (s_if (r_tnot (r_tru (toB (r_callB (cr_all rfl) d_all rfl T.z_all (by decide +kernel) (r_bcons (toB (ofN (r_lc (own := [("point", 17)]) rfl nd (i_seq (r_var 14)) (blkOk_by (by kernel_rfl)) (fun _ _ _ _ _ => (g_n 17 nd)) (fun _ _ _ _ _ => c_nil) (fun _ _ _ _ _ => (r_call (ok__law_like T 10) (hr.mono (by decide)) rfl T.g__law_like T.F__law_like.kp T.b__law_like (r_pcons (r_call (ok_point_round T) (hr.mono (by decide)) rfl T.g_point_round T.F_point_round.kp T.b_point_round (r_pcons (r_var 12) (r_pcons (r_var 17) r_pnil))) (r_pcons r_int r_pnil))))))) r_bnil))))) (s_one (s_ret r_bl)) s_nil))))))))
    (s_one (s_ret r_bl)))))))))))))))
theorem sc_law : FnScope ["script", "row", "p", "a", "b", "c", "likely", "x"] ["script"] (defScope (topS 30)) := ⟨rfl, rfl, rfl, by decide +kernel, rfl, by decide +kernel, by decide +kernel⟩
theorem ok_law (T : Tx K mg) : FnOk P w K mg base CX0 14 T.f_law T.fd_law ["script"] (spF K m_law) :=
  fn_ok T.F_law sc_law (fun cdv A outer s H E hr => by
    have nd := sc_law.nd
    have hu := hr.units
    exact (s_cons (s_set 1 nd (toV (r_call (ok__law_row T) (hr.mono (by decide)) rfl T.g__law_row T.F__law_row.kp T.b__law_row (r_pcons (r_var 0) (r_pcons r_int r_pnil)))))
    (s_cons (s_if (r_tnot (r_tru (toB (r_call (ok__law_ring_right T) (hr.mono (by decide)) rfl T.g__law_ring_right T.F__law_ring_right.kp T.b__law_ring_right (r_pcons (r_bin op_addA d_add (toB r_int) (toB (r_bin op_mod d_mod (toB (r_callT call_int1 d_int1 rfl T.z_int (by decide +kernel) (r_bcons (toB (r_ix (r_varB 1) (toB r_int))) r_bnil))) (toB r_int)))) (r_pcons (r_callT call_int1 d_int1 rfl T.z_int (by decide +kernel) (r_bcons (toB (r_ix (r_varB 1) (toB r_int))) r_bnil)) r_pnil)))))) (s_one (s_ret r_bl)) s_nil)
    (s_cons (s_set 2 nd (toV (r_ix (toB (r_tup (r_pcons r_int (r_pcons r_int (r_pcons r_int (r_pcons r_int (r_pcons r_int (r_pcons r_int (r_pcons r_int r_pnil))))))))) (toB (r_bin op_mod d_mod (toB (r_callT call_int1 d_int1 rfl T.z_int (by decide +kernel) (r_bcons (toB (r_ix (r_varB 1) (toB r_int))) r_bnil))) (toB r_int))))))
    (s_cons (s_par 3 4 rfl nd (toV (r_bin op_mod d_mod (toB (r_callT call_int1 d_int1 rfl T.z_int (by decide +kernel) (r_bcons (toB (r_ix (r_varB 1) (toB r_int))) r_bnil))) (r_varB 2))) (toV (r_bin op_mod d_mod (toB (r_callT call_int1 d_int1 rfl T.z_int (by decide +kernel) (r_bcons (toB (r_ix (r_varB 1) (toB r_int))) r_bnil))) (r_varB 2))) (by rfl))
    (s_cons (s_if (r_tcmp (op_eqD hu) d_eq (toB (r_bin op_mod d_mod (toB (r_callT call_int1 d_int1 rfl T.z_int (by decide +kernel) (r_bcons (toB (r_ix (r_varB 1) (toB r_int))) r_bnil))) (toB r_int))) (toB r_int) (nomark _)) (s_one (s_set 3 nd (toV r_int))) s_nil)
    (s_cons (s_if (r_tcmp (op_eqD hu) d_eq (toB (r_bin op_mod d_mod (toB (r_callT call_int1 d_int1 rfl T.z_int (by decide +kernel) (r_bcons (toB (r_ix (r_varB 1) (toB r_int))) r_bnil))) (toB r_int))) (toB r_int) (nomark _)) (s_one (s_set 4 nd (toV r_int))) s_nil)
    (s_cons (s_if (r_tcmp (op_eqD hu) d_eq (toB (r_bin op_mod d_mod (toB (r_callT call_int1 d_int1 rfl T.z_int (by decide +kernel) (r_bcons (toB (r_bin op_addA d_add (toB (r_bin op_mul d_mulI (toB (r_bin op_mul d_mulI (toB (r_bin op_mul d_mulI (toB r_int) (r_varB 3))) (r_varB 3))) (r_varB 3))) (toB (r_bin op_mul d_mulI (toB (r_bin op_mul d_mulI (toB r_int) (r_varB 4))) (r_varB 4))))) r_bnil))) (r_varB 2))) (toB r_int) (nomark _)) (s_one (s_tg (r_tup (r_pcons r_int (r_pcons r_int r_pnil))) (g_t rfl (gs_c (g_n 3 nd) (gs_c (g_n 4 nd) gs_n))))) s_nil)
    (s_cons (s_setF (s_setLc (own := [("c", 5)]) 6 rfl nd (i_rng2 rfl T.z_range (toB r_int) (r_varB 2)) (blkOk_by (by kernel_rfl)) (fun _ _ _ _ _ => (g_n 5 nd)) (fun _ _ _ _ _ => (c_one (r_tnot (r_tru (toB (r_callB (cr_any rfl) d_any rfl T.z_any (by decide +kernel) (r_bcons (toB (ofN (r_lc (own := [("x", 7)]) rfl nd (i_rng1 rfl T.z_range (r_varB 2)) (blkOk_by (by kernel_rfl)) (fun _ _ _ _ _ => (g_n 7 nd)) (fun _ _ _ _ _ => c_nil) (fun _ _ _ _ _ => (r_cmp (op_eqD hu) d_eq (toB (r_bin op_mod d_mod (toB (r_callT call_int1 d_int1 rfl T.z_int (by decide +kernel) (r_bcons (toB (r_bin op_sub d_sub (toB (r_bin op_mul d_mulI (r_varB 7) (r_varB 7))) (r_varB 5))) r_bnil))) (r_varB 2))) (toB r_int) (nomark _)))))) r_bnil))))))) (fun _ _ _ _ _ => (r_var 5)) (sw_true rfl rfl rfl (by decide +kernel))))
    (s_cons (s_set 5 nd (toV (r_ix (r_varB 6) (toB (r_bin op_mod d_mod (toB (r_callT call_int1 d_int1 rfl T.z_int (by decide +kernel) (r_bcons (toB (r_ix (r_varB 1) (toB r_int))) r_bnil))) (toB (r_callB call_len d_len rfl T.z_len (by decide +kernel) (r_bcons (r_varB 6) r_bnil))))))))
    (s_one (s_ret (r_and (r_cmp op_isA d_is (toB (r_call (ok_is_square T) (hr.mono (by decide)) rfl T.g_is_square T.F_is_square.kp T.b_is_square (r_pcons (r_var 5) (r_pcons (r_var 2) r_pnil)))) (toB r_bl) (nomark _)) (r_one (r_call (ok__law_curve_right T) (hr.mono (by decide)) rfl T.g__law_curve_right T.F__law_curve_right.kp T.b__law_curve_right (r_pcons (r_tup (r_pcons (r_var 3) (r_pcons (r_var 4) (r_pcons (r_var 2) r_pnil)))) (r_pcons (r_var 5) r_pnil)))))))))))))))))
end
/-! the head -/
def dn (x : Str) (i : Nat) : He.FnD := ⟨(x, none), x, x, defArgs (topS i), defBody (topS i), defScope (topS i)⟩
def fnl : List He.FnD := [dn "divisor" 1, dn "turned_number" 3, dn "power_in" 4, dn "round_of" 5, dn "makers" 6, dn "is_round_ring" 7, dn "is_square" 8, dn "square_sign" 9, dn "parts_of" 10, dn "turned_in" 12, dn "curve_points" 13, dn "sum_of_points" 14, dn "point_round" 15, dn "turned_curve" 16, dn "_law_mixed" 18, dn "_law_row" 19, dn "_law_is_int" 20, dn "_law_like" 21, dn "_law_common" 22, dn "_law_least" 23, dn "_law_parts" 24, dn "_law_greatest" 25, dn "_law_ring_right" 26, dn "_law_side" 27, dn "_law_all_added" 28, dn "_law_curve_right" 29, dn "law" 30]
def fal0 : List He.Fa := [.glo "divisor", .glo "turned_number", .glo "power_in", .glo "round_of", .glo "makers", .glo "is_round_ring", .glo "is_square", .glo "square_sign", .glo "parts_of", .glo "turned_in", .glo "curve_points", .glo "sum_of_points", .glo "point_round", .glo "turned_curve", .glo "_law_mixed", .glo "_law_row", .glo "_law_is_int", .glo "_law_like", .glo "_law_common", .glo "_law_least", .glo "_law_parts", .glo "_law_greatest", .glo "_law_ring_right", .glo "_law_side", .glo "_law_all_added", .glo "_law_curve_right", .glo "law", .keep "divisor", .keep "turned_number", .keep "power_in"]
def fal1 : List He.Fa := [.keep "round_of", .keep "makers", .keep "is_round_ring", .keep "is_square", .keep "square_sign", .keep "parts_of", .keep "turned_in", .keep "curve_points", .keep "sum_of_points", .keep "point_round", .keep "turned_curve", .keep "_law_mixed", .keep "_law_row", .keep "_law_is_int", .keep "_law_like", .keep "_law_common", .keep "_law_least", .keep "_law_parts", .keep "_law_greatest", .keep "_law_ring_right", .keep "_law_side", .keep "_law_all_added", .keep "_law_curve_right", .keep "law", .free "abs", .free "all", .free "any", .free "bool", .free "int", .free "isinstance"]
def fal2 : List He.Fa := [.free "len", .free "max", .free "range", .free "sorted", .free "str", .free "tuple"]
def fal : List He.Fa := fal0 ++ fal1 ++ fal2
def nms0 : List Str := ["divisor", "turned_number", "power_in", "round_of", "makers", "is_round_ring", "is_square", "square_sign", "parts_of", "turned_in", "curve_points", "sum_of_points", "point_round", "turned_curve", "_law_mixed", "_law_row", "_law_is_int", "_law_like", "_law_common", "_law_least", "_law_parts", "_law_greatest", "_law_ring_right", "_law_side", "_law_all_added", "_law_curve_right"]
def nms : List Str := nms0
abbrev R : PySem.W.OpenRow := PySem.W.OpenLaw.row PySem.Challenge.rw_sealskept_k76_whole_all_put_together
abbrev hk : PySem.W.Hook := He.hookE 4 fal fnl
def ob (s : PySem.W.SharedT) : He.Al := He.obsG 4 fal fnl (HandSHeadRun.getT s)
theorem ob_eq (s : PySem.W.SharedT) : ob s = hk.obs s.abs := He.obsG_eq (HandSHeadRun.getT_eq s)
set_option maxHeartbeats 0 in
theorem run (w : World) : HandSHeadRun.RunEq R (PySem.W.view R.prog [30]) hk ob 20000 nms w := by
  intro os
  kernel_rfl
theorem facts {K : PySem.W.Frag} {h : Heap} {mg : Str → Option Value} (X : K.In h) (G : h.Ns mainGlobals mg) (c : He.SaysE fal fnl K) : ∃ T : Tx K mg, ∀ (s : Shared) (u : Value), BindsTo s T.fd_law ⟨[u], []⟩ [("script", u)] := by
  obtain ⟨f0, fd0, F0, g0, b0, B0⟩ := def_at X G c "divisor" (topS 1) ["first", "second"] 0 0 27 rfl rfl rfl (fun _ _ _ _ _ _ us hl => match us, hl with | [_, _], _ => rfl)
  obtain ⟨f1, fd1, F1, g1, b1, B1⟩ := def_at X G c "turned_number" (topS 3) ["a", "n"] 1 1 28 rfl rfl rfl (fun _ _ _ _ _ _ us hl => match us, hl with | [_, _], _ => rfl)
  obtain ⟨f2, fd2, F2, g2, b2, B2⟩ := def_at X G c "power_in" (topS 4) ["a", "e", "n"] 2 2 29 rfl rfl rfl (fun _ _ _ _ _ _ us hl => match us, hl with | [_, _, _], _ => rfl)
  obtain ⟨f3, fd3, F3, g3, b3, B3⟩ := def_at X G c "round_of" (topS 5) ["a", "n"] 3 3 30 rfl rfl rfl (fun _ _ _ _ _ _ us hl => match us, hl with | [_, _], _ => rfl)
  obtain ⟨f4, fd4, F4, g4, b4, B4⟩ := def_at X G c "makers" (topS 6) ["n"] 4 4 31 rfl rfl rfl (fun _ _ _ _ _ _ us hl => match us, hl with | [_], _ => rfl)
  obtain ⟨f5, fd5, F5, g5, b5, B5⟩ := def_at X G c "is_round_ring" (topS 7) ["n"] 5 5 32 rfl rfl rfl (fun _ _ _ _ _ _ us hl => match us, hl with | [_], _ => rfl)
  obtain ⟨f6, fd6, F6, g6, b6, B6⟩ := def_at X G c "is_square" (topS 8) ["a", "p"] 6 6 33 rfl rfl rfl (fun _ _ _ _ _ _ us hl => match us, hl with | [_, _], _ => rfl)
  obtain ⟨f7, fd7, F7, g7, b7, B7⟩ := def_at X G c "square_sign" (topS 9) ["a", "n"] 7 7 34 rfl rfl rfl (fun _ _ _ _ _ _ us hl => match us, hl with | [_, _], _ => rfl)
  obtain ⟨f8, fd8, F8, g8, b8, B8⟩ := def_at X G c "parts_of" (topS 10) ["n"] 8 8 35 rfl rfl rfl (fun _ _ _ _ _ _ us hl => match us, hl with | [_], _ => rfl)
  obtain ⟨f9, fd9, F9, g9, b9, B9⟩ := def_at X G c "turned_in" (topS 12) ["a", "p"] 9 9 36 rfl rfl rfl (fun _ _ _ _ _ _ us hl => match us, hl with | [_, _], _ => rfl)
  obtain ⟨f10, fd10, F10, g10, b10, B10⟩ := def_at X G c "curve_points" (topS 13) ["curve"] 10 10 37 rfl rfl rfl (fun _ _ _ _ _ _ us hl => match us, hl with | [_], _ => rfl)
  obtain ⟨f11, fd11, F11, g11, b11, B11⟩ := def_at X G c "sum_of_points" (topS 14) ["curve", "first", "second"] 11 11 38 rfl rfl rfl (fun _ _ _ _ _ _ us hl => match us, hl with | [_, _, _], _ => rfl)
  obtain ⟨f12, fd12, F12, g12, b12, B12⟩ := def_at X G c "point_round" (topS 15) ["curve", "point"] 12 12 39 rfl rfl rfl (fun _ _ _ _ _ _ us hl => match us, hl with | [_, _], _ => rfl)
  obtain ⟨f13, fd13, F13, g13, b13, B13⟩ := def_at X G c "turned_curve" (topS 16) ["curve", "c"] 13 13 40 rfl rfl rfl (fun _ _ _ _ _ _ us hl => match us, hl with | [_, _], _ => rfl)
  obtain ⟨f14, fd14, F14, g14, b14, B14⟩ := def_at X G c "_law_mixed" (topS 18) ["script", "k"] 14 14 41 rfl rfl rfl (fun _ _ _ _ _ _ us hl => match us, hl with | [_, _], _ => rfl)
  obtain ⟨f15, fd15, F15, g15, b15, B15⟩ := def_at X G c "_law_row" (topS 19) ["script", "many"] 15 15 42 rfl rfl rfl (fun _ _ _ _ _ _ us hl => match us, hl with | [_, _], _ => rfl)
  obtain ⟨f16, fd16, F16, g16, b16, B16⟩ := def_at X G c "_law_is_int" (topS 20) ["value"] 16 16 43 rfl rfl rfl (fun _ _ _ _ _ _ us hl => match us, hl with | [_], _ => rfl)
  obtain ⟨f17, fd17, F17, g17, b17, B17⟩ := def_at X G c "_law_like" (topS 21) ["value", "due"] 17 17 44 rfl rfl rfl (fun _ _ _ _ _ _ us hl => match us, hl with | [_, _], _ => rfl)
  obtain ⟨f18, fd18, F18, g18, b18, B18⟩ := def_at X G c "_law_common" (topS 22) ["first", "second"] 18 18 45 rfl rfl rfl (fun _ _ _ _ _ _ us hl => match us, hl with | [_, _], _ => rfl)
  obtain ⟨f19, fd19, F19, g19, b19, B19⟩ := def_at X G c "_law_least" (topS 23) ["numbers"] 19 19 46 rfl rfl rfl (fun _ _ _ _ _ _ us hl => match us, hl with | [_], _ => rfl)
  obtain ⟨f20, fd20, F20, g20, b20, B20⟩ := def_at X G c "_law_parts" (topS 24) ["n"] 20 20 47 rfl rfl rfl (fun _ _ _ _ _ _ us hl => match us, hl with | [_], _ => rfl)
  obtain ⟨f21, fd21, F21, g21, b21, B21⟩ := def_at X G c "_law_greatest" (topS 25) ["prime", "power", "size"] 21 21 48 rfl rfl rfl (fun _ _ _ _ _ _ us hl => match us, hl with | [_, _, _], _ => rfl)
  obtain ⟨f22, fd22, F22, g22, b22, B22⟩ := def_at X G c "_law_ring_right" (topS 26) ["n", "draw"] 22 22 49 rfl rfl rfl (fun _ _ _ _ _ _ us hl => match us, hl with | [_, _], _ => rfl)
  obtain ⟨f23, fd23, F23, g23, b23, B23⟩ := def_at X G c "_law_side" (topS 27) ["curve", "x"] 23 23 50 rfl rfl rfl (fun _ _ _ _ _ _ us hl => match us, hl with | [_, _], _ => rfl)
  obtain ⟨f24, fd24, F24, g24, b24, B24⟩ := def_at X G c "_law_all_added" (topS 28) ["curve", "points"] 24 24 51 rfl rfl rfl (fun _ _ _ _ _ _ us hl => match us, hl with | [_, _], _ => rfl)
  obtain ⟨f25, fd25, F25, g25, b25, B25⟩ := def_at X G c "_law_curve_right" (topS 29) ["curve", "c"] 25 25 52 rfl rfl rfl (fun _ _ _ _ _ _ us hl => match us, hl with | [_, _], _ => rfl)
  obtain ⟨f26, fd26, F26, g26, b26, B26⟩ := def_at X G c "law" (topS 30) ["script"] 26 26 53 rfl rfl rfl (fun _ _ _ _ _ _ us hl => match us, hl with | [_], _ => rfl)
  have z0 := free_at X G c "abs" 54 rfl
  have z1 := free_at X G c "all" 55 rfl
  have z2 := free_at X G c "any" 56 rfl
  have z3 := free_at X G c "bool" 57 rfl
  have z4 := free_at X G c "int" 58 rfl
  have z5 := free_at X G c "isinstance" 59 rfl
  have z6 := free_at X G c "len" 60 rfl
  have z7 := free_at X G c "max" 61 rfl
  have z8 := free_at X G c "range" 62 rfl
  have z9 := free_at X G c "sorted" 63 rfl
  have z10 := free_at X G c "str" 64 rfl
  have z11 := free_at X G c "tuple" 65 rfl
  exact ⟨{ f_divisor := f0, fd_divisor := fd0, F_divisor := F0, g_divisor := g0, b_divisor := b0, f_turned_number := f1, fd_turned_number := fd1, F_turned_number := F1, g_turned_number := g1, b_turned_number := b1, f_power_in := f2, fd_power_in := fd2, F_power_in := F2, g_power_in := g2, b_power_in := b2, f_round_of := f3, fd_round_of := fd3, F_round_of := F3, g_round_of := g3, b_round_of := b3, f_makers := f4, fd_makers := fd4, F_makers := F4, g_makers := g4, b_makers := b4, f_is_round_ring := f5, fd_is_round_ring := fd5, F_is_round_ring := F5, g_is_round_ring := g5, b_is_round_ring := b5, f_is_square := f6, fd_is_square := fd6, F_is_square := F6, g_is_square := g6, b_is_square := b6, f_square_sign := f7, fd_square_sign := fd7, F_square_sign := F7, g_square_sign := g7, b_square_sign := b7, f_parts_of := f8, fd_parts_of := fd8, F_parts_of := F8, g_parts_of := g8, b_parts_of := b8, f_turned_in := f9, fd_turned_in := fd9, F_turned_in := F9, g_turned_in := g9, b_turned_in := b9, f_curve_points := f10, fd_curve_points := fd10, F_curve_points := F10, g_curve_points := g10, b_curve_points := b10, f_sum_of_points := f11, fd_sum_of_points := fd11, F_sum_of_points := F11, g_sum_of_points := g11, b_sum_of_points := b11, f_point_round := f12, fd_point_round := fd12, F_point_round := F12, g_point_round := g12, b_point_round := b12, f_turned_curve := f13, fd_turned_curve := fd13, F_turned_curve := F13, g_turned_curve := g13, b_turned_curve := b13, f__law_mixed := f14, fd__law_mixed := fd14, F__law_mixed := F14, g__law_mixed := g14, b__law_mixed := b14, f__law_row := f15, fd__law_row := fd15, F__law_row := F15, g__law_row := g15, b__law_row := b15, f__law_is_int := f16, fd__law_is_int := fd16, F__law_is_int := F16, g__law_is_int := g16, b__law_is_int := b16, f__law_like := f17, fd__law_like := fd17, F__law_like := F17, g__law_like := g17, b__law_like := b17, f__law_common := f18, fd__law_common := fd18, F__law_common := F18, g__law_common := g18, b__law_common := b18, f__law_least := f19, fd__law_least := fd19, F__law_least := F19, g__law_least := g19, b__law_least := b19, f__law_parts := f20, fd__law_parts := fd20, F__law_parts := F20, g__law_parts := g20, b__law_parts := b20, f__law_greatest := f21, fd__law_greatest := fd21, F__law_greatest := F21, g__law_greatest := g21, b__law_greatest := b21, f__law_ring_right := f22, fd__law_ring_right := fd22, F__law_ring_right := F22, g__law_ring_right := g22, b__law_ring_right := b22, f__law_side := f23, fd__law_side := fd23, F__law_side := F23, g__law_side := g23, b__law_side := b23, f__law_all_added := f24, fd__law_all_added := fd24, F__law_all_added := F24, g__law_all_added := g24, b__law_all_added := b24, f__law_curve_right := f25, fd__law_curve_right := fd25, F__law_curve_right := F25, g__law_curve_right := g25, b__law_curve_right := b25, f_law := f26, fd_law := fd26, F_law := F26, g_law := g26, b_law := b26, z_abs := z0, z_all := z1, z_any := z2, z_bool := z3, z_int := z4, z_isinstance := z5, z_len := z6, z_max := z7, z_range := z8, z_sorted := z9, z_str := z10, z_tuple := z11 }, fun s u => B26 s [u] rfl⟩
end K76

set_option Elab.async false
set_option linter.all false
set_option maxRecDepth 100000
set_option maxHeartbeats 4000000
set_option autoImplicit false
namespace K76
open PySem PySem.Spec PyProof.Rows L2 SK
/-! ### the ring: its run up to the draw, for each ring of 2 to 60 -/
def pre76 : MS :=
  (sSq (sTg (gT (gsC (gN 3) (gsC (gN 4) gsN))) (mTup (mCons (mCall m__law_parts (mCons (mVar 0) mNil)) (mCons (mLc (mRng2 (mC (.int 1)) (mVarB 0)) (gN 2) (mTB (mBin dEq (mCall n__law_common (mCons (mVar 2) (mCons (mVar 0) mNil))) (mC (.int 1)))) (mVar 2) [2]) mNil)))) (sSq (sIf (mtNot (mTru (mCall (m__law_like 10) (mCons (mCall m_parts_of (mCons (mVar 0) mNil)) (mCons (mCall dTuple (mCons (mLc (mItems (mVar 3)) (gT (gsC (gN 11) (gsC (gN 12) (gsC (gN 13) gsN)))) mYes (mTup (mCons (mVar 11) (mCons (mVar 12) mNil))) [11, 12, 13]) mNil)) mNil))))) (sRt (mC (.bl false))) sNx) (sSq (sPar 5 6 (xV (mC (.int 1))) (xV (mBin dLt (mCall dLen (mCons (mLc (mItems (mVar 4)) (gN 2) (mTB (mBin dEq (mBin dMod (mCall dInt1 (mCons (mBin dMulI (mVarB 2) (mVarB 2)) mNil)) (mVarB 0)) (mC (.int 1)))) (mVar 2) [2]) mNil)) (mC (.int 3))))) (sSq (sFor (mItems (mVar 4)) (gN 2) (sSq (sIf (mtOr (mtNot (mTru (mCall m__law_is_int (mCons (mCall n_turned_number (mCons (mVar 2) (mCons (mVar 0) mNil))) mNil)))) (mTB (mBin dNe (mBin dMod (mCall dInt1 (mCons (mBin dMulI (mVarB 2) (mCall n_turned_number (mCons (mVar 2) (mCons (mVar 0) mNil)))) mNil)) (mVarB 0)) (mC (.int 1))))) (sRt (mC (.bl false))) sNx) (sSet 5 (xV (mBin dMod (mCall dInt1 (mCons (mBin dMulI (mVarB 5) (mVarB 2)) mNil)) (mVarB 0)))))) (sSq (sIf (mtOr (mtNot (mTru (mCall (m__law_like 10) (mCons (mCall m_is_round_ring (mCons (mVar 0) mNil)) (mCons (mVar 6) mNil))))) (mTB (mBin dNe (mVarB 5) (mBin dIx (mTup (mCons (mC (.int 1)) (mCons (mBin dSub (mVarB 0) (mC (.int 1))) mNil))) (mCall dInt1 (mCons (mVarB 6) mNil)))))) (sRt (mC (.bl false))) sNx) (sSq (sPar 7 8 (xV (mCall m_makers (mCons (mVar 0) mNil))) (xV (mC (.int 0)))) (sSq (sIf (mTru (mVarB 6)) (sSet 8 (xV (mCall dLen (mCons (mLc (mRng2 (mC (.int 1)) (mBin dAdd (mCall dLen (mCons (mVarB 4) mNil)) (mC (.int 1)))) (gN 14) (mTB (mBin dEq (mCall n__law_common (mCons (mVar 14) (mCons (mCall dLen (mCons (mVarB 4) mNil)) mNil))) (mC (.int 1)))) (mVar 14) [14]) mNil)))) sNx) (sSq (sIf (mtOr (mtNot (mTru (mUn (dIsi .tuple) (mVarB 7)))) (mTB (mBin dNe (mCall dLen (mCons (mVarB 7) mNil)) (mVarB 8)))) (sRt (mC (.bl false))) sNx) (sSq (sSet 9 (xV (mCall m__law_least (mCons (mLc (mItems (mVar 3)) (gT (gsC (gN 11) (gsC (gN 12) (gsC (gN 13) gsN)))) mYes (mCall m__law_greatest (mCons (mVar 11) (mCons (mVar 12) (mCons (mVar 13) mNil)))) [11, 12, 13]) mNil)))) (sSq (sSetF 10 (mLc (mItems (mVar 4)) (gN 2) mYes (mCall n_round_of (mCons (mVar 2) (mCons (mVar 0) mNil))) [2])) (sIf (mtOr (mtNot (mTru (mCall dAll (mCons (mLc (mItems (mVar 10)) (gN 15) mYes (mCall m__law_is_int (mCons (mVar 15) mNil)) [15]) mNil)))) (mTB (mBin dNe (mCall dMax1 (mCons (mVarB 10) mNil)) (mVarB 9)))) (sRt (mC (.bl false))) sNx)))))))))))
def tail76 : MS :=
  (sSq (sSet 2 (xV (mBin dIx (mVarB 4) (mBin dMod (mCall dInt1 (mCons (mVarB 1) mNil)) (mCall dLen (mCons (mVarB 4) mNil)))))) (sRt (mCall (m__law_like 10) (mCons (mCall n_round_of (mCons (mVar 2) (mCons (mVar 0) mNil))) (mCons (mCall m__law_least (mCons (mLc (mItems (mVar 3)) (gT (gsC (gN 11) (gsC (gN 12) (gsC (gN 13) gsN)))) mYes (mCall n_round_of (mCons (mBin dMod (mCall dInt1 (mCons (mVarB 2) mNil)) (mVarB 13)) (mCons (mVar 13) mNil))) [11, 12, 13]) mNil)) mNil)))))
def res76 : ME :=
  (mCall (m__law_like 10) (mCons (mCall n_round_of (mCons (mVar 2) (mCons (mVar 0) mNil))) (mCons (mCall m__law_least (mCons (mLc (mItems (mVar 3)) (gT (gsC (gN 11) (gsC (gN 12) (gsC (gN 13) gsN)))) mYes (mCall n_round_of (mCons (mBin dMod (mCall dInt1 (mCons (mVarB 2) mNil)) (mVarB 13)) (mCons (mVar 13) mNil))) [11, 12, 13]) mNil)) mNil)))
def en0 (n : Nat) (d : Int) : En := [.val (.int n), .val (.int d), .emp, .emp, .emp, .emp, .emp, .emp, .emp, .emp, .emp, .emp, .emp, .emp, .emp, .emp]
def isT : Option D → Bool
  | some (.bl true) => true
  | _ => false
theorem isT_eq {x : Option D} (h : isT x = true) : x = some (.bl true) := by
  unfold isT at h
  split at h
  · rfl
  · cases h
def chkU (Γ : En) : Bool := match Γ[4]? with
  | some (Slot.val (D.lst us)) => us.all fun a => isT (res76 (Γ.set 2 (.val a)))
  | _ => false
theorem sSq_assoc (a b c : MS) : sSq (sSq a b) c = sSq a (sSq b c) := by
  funext Γ
  unfold sSq
  cases h : a Γ with
  | none => rfl
  | some r =>
    obtain ⟨fl, Γ1⟩ := r
    cases fl <;> rfl
theorem ring_split : sSq pre76 tail76 = b__law_ring_right := by
  unfold pre76 tail76
  simp only [sSq_assoc]
  rfl
def env2 (d : Int) : En := [.val (.int 2), .val (.int d), .val (.int 1), .val (.lst [.tup [.int 2, .int 1, .int 2]]), .val (.lst [.int 1]), .val (.int 1), .val (.bl true), .val (.tup [.int 1]), .val (.int 1), .val (.int 1), .val (.lst [.int 1]), .emp, .emp, .emp, .emp, .emp]
theorem pre_2 (d : Int) : pre76 (en0 2 d) = some (.nx, env2 d) := by kernel_rfl
theorem chk_2 (d : Int) : chkU (env2 d) = true := by kernel_rfl
def env3 (d : Int) : En := [.val (.int 3), .val (.int d), .val (.int 2), .val (.lst [.tup [.int 3, .int 1, .int 3]]), .val (.lst [.int 1, .int 2]), .val (.int 2), .val (.bl true), .val (.tup [.int 2]), .val (.int 1), .val (.int 2), .val (.lst [.int 1, .int 2]), .emp, .emp, .emp, .emp, .emp]
theorem pre_3 (d : Int) : pre76 (en0 3 d) = some (.nx, env3 d) := by kernel_rfl
theorem chk_3 (d : Int) : chkU (env3 d) = true := by kernel_rfl
def env4 (d : Int) : En := [.val (.int 4), .val (.int d), .val (.int 3), .val (.lst [.tup [.int 2, .int 2, .int 4]]), .val (.lst [.int 1, .int 3]), .val (.int 3), .val (.bl true), .val (.tup [.int 3]), .val (.int 1), .val (.int 2), .val (.lst [.int 1, .int 2]), .emp, .emp, .emp, .emp, .emp]
theorem pre_4 (d : Int) : pre76 (en0 4 d) = some (.nx, env4 d) := by kernel_rfl
theorem chk_4 (d : Int) : chkU (env4 d) = true := by kernel_rfl
def env5 (d : Int) : En := [.val (.int 5), .val (.int d), .val (.int 4), .val (.lst [.tup [.int 5, .int 1, .int 5]]), .val (.lst [.int 1, .int 2, .int 3, .int 4]), .val (.int 4), .val (.bl true), .val (.tup [.int 2, .int 3]), .val (.int 2), .val (.int 4), .val (.lst [.int 1, .int 4, .int 4, .int 2]), .emp, .emp, .emp, .emp, .emp]
theorem pre_5 (d : Int) : pre76 (en0 5 d) = some (.nx, env5 d) := by kernel_rfl
theorem chk_5 (d : Int) : chkU (env5 d) = true := by kernel_rfl
def env6 (d : Int) : En := [.val (.int 6), .val (.int d), .val (.int 5), .val (.lst [.tup [.int 2, .int 1, .int 2], .tup [.int 3, .int 1, .int 3]]), .val (.lst [.int 1, .int 5]), .val (.int 5), .val (.bl true), .val (.tup [.int 5]), .val (.int 1), .val (.int 2), .val (.lst [.int 1, .int 2]), .emp, .emp, .emp, .emp, .emp]
theorem pre_6 (d : Int) : pre76 (en0 6 d) = some (.nx, env6 d) := by kernel_rfl
theorem chk_6 (d : Int) : chkU (env6 d) = true := by kernel_rfl
def env7 (d : Int) : En := [.val (.int 7), .val (.int d), .val (.int 6), .val (.lst [.tup [.int 7, .int 1, .int 7]]), .val (.lst [.int 1, .int 2, .int 3, .int 4, .int 5, .int 6]), .val (.int 6), .val (.bl true), .val (.tup [.int 3, .int 5]), .val (.int 2), .val (.int 6), .val (.lst [.int 1, .int 3, .int 6, .int 3, .int 6, .int 2]), .emp, .emp, .emp, .emp, .emp]
theorem pre_7 (d : Int) : pre76 (en0 7 d) = some (.nx, env7 d) := by kernel_rfl
theorem chk_7 (d : Int) : chkU (env7 d) = true := by kernel_rfl
def env8 (d : Int) : En := [.val (.int 8), .val (.int d), .val (.int 7), .val (.lst [.tup [.int 2, .int 3, .int 8]]), .val (.lst [.int 1, .int 3, .int 5, .int 7]), .val (.int 1), .val (.bl false), .val (.tup []), .val (.int 0), .val (.int 2), .val (.lst [.int 1, .int 2, .int 2, .int 2]), .emp, .emp, .emp, .emp, .emp]
theorem pre_8 (d : Int) : pre76 (en0 8 d) = some (.nx, env8 d) := by kernel_rfl
theorem chk_8 (d : Int) : chkU (env8 d) = true := by kernel_rfl
def env9 (d : Int) : En := [.val (.int 9), .val (.int d), .val (.int 8), .val (.lst [.tup [.int 3, .int 2, .int 9]]), .val (.lst [.int 1, .int 2, .int 4, .int 5, .int 7, .int 8]), .val (.int 8), .val (.bl true), .val (.tup [.int 2, .int 5]), .val (.int 2), .val (.int 6), .val (.lst [.int 1, .int 6, .int 3, .int 6, .int 3, .int 2]), .emp, .emp, .emp, .emp, .emp]
theorem pre_9 (d : Int) : pre76 (en0 9 d) = some (.nx, env9 d) := by kernel_rfl
theorem chk_9 (d : Int) : chkU (env9 d) = true := by kernel_rfl
def env10 (d : Int) : En := [.val (.int 10), .val (.int d), .val (.int 9), .val (.lst [.tup [.int 2, .int 1, .int 2], .tup [.int 5, .int 1, .int 5]]), .val (.lst [.int 1, .int 3, .int 7, .int 9]), .val (.int 9), .val (.bl true), .val (.tup [.int 3, .int 7]), .val (.int 2), .val (.int 4), .val (.lst [.int 1, .int 4, .int 4, .int 2]), .emp, .emp, .emp, .emp, .emp]
theorem pre_10 (d : Int) : pre76 (en0 10 d) = some (.nx, env10 d) := by kernel_rfl
theorem chk_10 (d : Int) : chkU (env10 d) = true := by kernel_rfl
def env11 (d : Int) : En := [.val (.int 11), .val (.int d), .val (.int 10), .val (.lst [.tup [.int 11, .int 1, .int 11]]), .val (.lst [.int 1, .int 2, .int 3, .int 4, .int 5, .int 6, .int 7, .int 8, .int 9, .int 10]), .val (.int 10), .val (.bl true), .val (.tup [.int 2, .int 6, .int 7, .int 8]), .val (.int 4), .val (.int 10), .val (.lst [.int 1, .int 10, .int 5, .int 5, .int 5, .int 10, .int 10, .int 10, .int 5, .int 2]), .emp, .emp, .emp, .emp, .emp]
theorem pre_11 (d : Int) : pre76 (en0 11 d) = some (.nx, env11 d) := by kernel_rfl
theorem chk_11 (d : Int) : chkU (env11 d) = true := by kernel_rfl
def env12 (d : Int) : En := [.val (.int 12), .val (.int d), .val (.int 11), .val (.lst [.tup [.int 2, .int 2, .int 4], .tup [.int 3, .int 1, .int 3]]), .val (.lst [.int 1, .int 5, .int 7, .int 11]), .val (.int 1), .val (.bl false), .val (.tup []), .val (.int 0), .val (.int 2), .val (.lst [.int 1, .int 2, .int 2, .int 2]), .emp, .emp, .emp, .emp, .emp]
theorem pre_12 (d : Int) : pre76 (en0 12 d) = some (.nx, env12 d) := by kernel_rfl
theorem chk_12 (d : Int) : chkU (env12 d) = true := by kernel_rfl
def env13 (d : Int) : En := [.val (.int 13), .val (.int d), .val (.int 12), .val (.lst [.tup [.int 13, .int 1, .int 13]]), .val (.lst [.int 1, .int 2, .int 3, .int 4, .int 5, .int 6, .int 7, .int 8, .int 9, .int 10, .int 11, .int 12]), .val (.int 12), .val (.bl true), .val (.tup [.int 2, .int 6, .int 7, .int 11]), .val (.int 4), .val (.int 12), .val (.lst [.int 1, .int 12, .int 3, .int 6, .int 4, .int 12, .int 12, .int 4, .int 3, .int 6, .int 12, .int 2]), .emp, .emp, .emp, .emp, .emp]
theorem pre_13 (d : Int) : pre76 (en0 13 d) = some (.nx, env13 d) := by kernel_rfl
theorem chk_13 (d : Int) : chkU (env13 d) = true := by kernel_rfl
def env14 (d : Int) : En := [.val (.int 14), .val (.int d), .val (.int 13), .val (.lst [.tup [.int 2, .int 1, .int 2], .tup [.int 7, .int 1, .int 7]]), .val (.lst [.int 1, .int 3, .int 5, .int 9, .int 11, .int 13]), .val (.int 13), .val (.bl true), .val (.tup [.int 3, .int 5]), .val (.int 2), .val (.int 6), .val (.lst [.int 1, .int 6, .int 6, .int 3, .int 3, .int 2]), .emp, .emp, .emp, .emp, .emp]
theorem pre_14 (d : Int) : pre76 (en0 14 d) = some (.nx, env14 d) := by kernel_rfl
theorem chk_14 (d : Int) : chkU (env14 d) = true := by kernel_rfl
def env15 (d : Int) : En := [.val (.int 15), .val (.int d), .val (.int 14), .val (.lst [.tup [.int 3, .int 1, .int 3], .tup [.int 5, .int 1, .int 5]]), .val (.lst [.int 1, .int 2, .int 4, .int 7, .int 8, .int 11, .int 13, .int 14]), .val (.int 1), .val (.bl false), .val (.tup []), .val (.int 0), .val (.int 4), .val (.lst [.int 1, .int 4, .int 2, .int 4, .int 4, .int 2, .int 4, .int 2]), .emp, .emp, .emp, .emp, .emp]
theorem pre_15 (d : Int) : pre76 (en0 15 d) = some (.nx, env15 d) := by kernel_rfl
theorem chk_15 (d : Int) : chkU (env15 d) = true := by kernel_rfl
def env16 (d : Int) : En := [.val (.int 16), .val (.int d), .val (.int 15), .val (.lst [.tup [.int 2, .int 4, .int 16]]), .val (.lst [.int 1, .int 3, .int 5, .int 7, .int 9, .int 11, .int 13, .int 15]), .val (.int 1), .val (.bl false), .val (.tup []), .val (.int 0), .val (.int 4), .val (.lst [.int 1, .int 4, .int 4, .int 2, .int 2, .int 4, .int 4, .int 2]), .emp, .emp, .emp, .emp, .emp]
theorem pre_16 (d : Int) : pre76 (en0 16 d) = some (.nx, env16 d) := by kernel_rfl
theorem chk_16 (d : Int) : chkU (env16 d) = true := by kernel_rfl
def env17 (d : Int) : En := [.val (.int 17), .val (.int d), .val (.int 16), .val (.lst [.tup [.int 17, .int 1, .int 17]]), .val (.lst [.int 1, .int 2, .int 3, .int 4, .int 5, .int 6, .int 7, .int 8, .int 9, .int 10, .int 11, .int 12, .int 13, .int 14, .int 15, .int 16]), .val (.int 16), .val (.bl true), .val (.tup [.int 3, .int 5, .int 6, .int 7, .int 10, .int 11, .int 12, .int 14]), .val (.int 8), .val (.int 16), .val (.lst [.int 1, .int 8, .int 16, .int 4, .int 16, .int 16, .int 16, .int 8, .int 8, .int 16, .int 16, .int 16, .int 4, .int 16, .int 8, .int 2]), .emp, .emp, .emp, .emp, .emp]
theorem pre_17 (d : Int) : pre76 (en0 17 d) = some (.nx, env17 d) := by kernel_rfl
theorem chk_17 (d : Int) : chkU (env17 d) = true := by kernel_rfl
def env18 (d : Int) : En := [.val (.int 18), .val (.int d), .val (.int 17), .val (.lst [.tup [.int 2, .int 1, .int 2], .tup [.int 3, .int 2, .int 9]]), .val (.lst [.int 1, .int 5, .int 7, .int 11, .int 13, .int 17]), .val (.int 17), .val (.bl true), .val (.tup [.int 5, .int 11]), .val (.int 2), .val (.int 6), .val (.lst [.int 1, .int 6, .int 3, .int 6, .int 3, .int 2]), .emp, .emp, .emp, .emp, .emp]
theorem pre_18 (d : Int) : pre76 (en0 18 d) = some (.nx, env18 d) := by kernel_rfl
theorem chk_18 (d : Int) : chkU (env18 d) = true := by kernel_rfl
def env19 (d : Int) : En := [.val (.int 19), .val (.int d), .val (.int 18), .val (.lst [.tup [.int 19, .int 1, .int 19]]), .val (.lst [.int 1, .int 2, .int 3, .int 4, .int 5, .int 6, .int 7, .int 8, .int 9, .int 10, .int 11, .int 12, .int 13, .int 14, .int 15, .int 16, .int 17, .int 18]), .val (.int 18), .val (.bl true), .val (.tup [.int 2, .int 3, .int 10, .int 13, .int 14, .int 15]), .val (.int 6), .val (.int 18), .val (.lst [.int 1, .int 18, .int 18, .int 9, .int 9, .int 9, .int 3, .int 6, .int 9, .int 18, .int 3, .int 6, .int 18, .int 18, .int 18, .int 9, .int 9, .int 2]), .emp, .emp, .emp, .emp, .emp]
theorem pre_19 (d : Int) : pre76 (en0 19 d) = some (.nx, env19 d) := by kernel_rfl
theorem chk_19 (d : Int) : chkU (env19 d) = true := by kernel_rfl
def env20 (d : Int) : En := [.val (.int 20), .val (.int d), .val (.int 19), .val (.lst [.tup [.int 2, .int 2, .int 4], .tup [.int 5, .int 1, .int 5]]), .val (.lst [.int 1, .int 3, .int 7, .int 9, .int 11, .int 13, .int 17, .int 19]), .val (.int 1), .val (.bl false), .val (.tup []), .val (.int 0), .val (.int 4), .val (.lst [.int 1, .int 4, .int 4, .int 2, .int 2, .int 4, .int 4, .int 2]), .emp, .emp, .emp, .emp, .emp]
theorem pre_20 (d : Int) : pre76 (en0 20 d) = some (.nx, env20 d) := by kernel_rfl
theorem chk_20 (d : Int) : chkU (env20 d) = true := by kernel_rfl
def env21 (d : Int) : En := [.val (.int 21), .val (.int d), .val (.int 20), .val (.lst [.tup [.int 3, .int 1, .int 3], .tup [.int 7, .int 1, .int 7]]), .val (.lst [.int 1, .int 2, .int 4, .int 5, .int 8, .int 10, .int 11, .int 13, .int 16, .int 17, .int 19, .int 20]), .val (.int 1), .val (.bl false), .val (.tup []), .val (.int 0), .val (.int 6), .val (.lst [.int 1, .int 6, .int 3, .int 6, .int 2, .int 6, .int 6, .int 2, .int 3, .int 6, .int 6, .int 2]), .emp, .emp, .emp, .emp, .emp]
theorem pre_21 (d : Int) : pre76 (en0 21 d) = some (.nx, env21 d) := by kernel_rfl
theorem chk_21 (d : Int) : chkU (env21 d) = true := by kernel_rfl
def env22 (d : Int) : En := [.val (.int 22), .val (.int d), .val (.int 21), .val (.lst [.tup [.int 2, .int 1, .int 2], .tup [.int 11, .int 1, .int 11]]), .val (.lst [.int 1, .int 3, .int 5, .int 7, .int 9, .int 13, .int 15, .int 17, .int 19, .int 21]), .val (.int 21), .val (.bl true), .val (.tup [.int 7, .int 13, .int 17, .int 19]), .val (.int 4), .val (.int 10), .val (.lst [.int 1, .int 5, .int 5, .int 10, .int 5, .int 10, .int 5, .int 10, .int 10, .int 2]), .emp, .emp, .emp, .emp, .emp]
theorem pre_22 (d : Int) : pre76 (en0 22 d) = some (.nx, env22 d) := by kernel_rfl
theorem chk_22 (d : Int) : chkU (env22 d) = true := by kernel_rfl
def env23 (d : Int) : En := [.val (.int 23), .val (.int d), .val (.int 22), .val (.lst [.tup [.int 23, .int 1, .int 23]]), .val (.lst [.int 1, .int 2, .int 3, .int 4, .int 5, .int 6, .int 7, .int 8, .int 9, .int 10, .int 11, .int 12, .int 13, .int 14, .int 15, .int 16, .int 17, .int 18, .int 19, .int 20, .int 21, .int 22]), .val (.int 22), .val (.bl true), .val (.tup [.int 5, .int 7, .int 10, .int 11, .int 14, .int 15, .int 17, .int 19, .int 20, .int 21]), .val (.int 10), .val (.int 22), .val (.lst [.int 1, .int 11, .int 11, .int 11, .int 22, .int 11, .int 22, .int 11, .int 11, .int 22, .int 22, .int 11, .int 11, .int 22, .int 22, .int 11, .int 22, .int 11, .int 22, .int 22, .int 22, .int 2]), .emp, .emp, .emp, .emp, .emp]
theorem pre_23 (d : Int) : pre76 (en0 23 d) = some (.nx, env23 d) := by kernel_rfl
theorem chk_23 (d : Int) : chkU (env23 d) = true := by kernel_rfl
def env24 (d : Int) : En := [.val (.int 24), .val (.int d), .val (.int 23), .val (.lst [.tup [.int 2, .int 3, .int 8], .tup [.int 3, .int 1, .int 3]]), .val (.lst [.int 1, .int 5, .int 7, .int 11, .int 13, .int 17, .int 19, .int 23]), .val (.int 1), .val (.bl false), .val (.tup []), .val (.int 0), .val (.int 2), .val (.lst [.int 1, .int 2, .int 2, .int 2, .int 2, .int 2, .int 2, .int 2]), .emp, .emp, .emp, .emp, .emp]
theorem pre_24 (d : Int) : pre76 (en0 24 d) = some (.nx, env24 d) := by kernel_rfl
theorem chk_24 (d : Int) : chkU (env24 d) = true := by kernel_rfl
def env25 (d : Int) : En := [.val (.int 25), .val (.int d), .val (.int 24), .val (.lst [.tup [.int 5, .int 2, .int 25]]), .val (.lst [.int 1, .int 2, .int 3, .int 4, .int 6, .int 7, .int 8, .int 9, .int 11, .int 12, .int 13, .int 14, .int 16, .int 17, .int 18, .int 19, .int 21, .int 22, .int 23, .int 24]), .val (.int 24), .val (.bl true), .val (.tup [.int 2, .int 3, .int 8, .int 12, .int 13, .int 17, .int 22, .int 23]), .val (.int 8), .val (.int 20), .val (.lst [.int 1, .int 20, .int 20, .int 10, .int 5, .int 4, .int 20, .int 10, .int 5, .int 20, .int 20, .int 10, .int 5, .int 20, .int 4, .int 10, .int 5, .int 20, .int 20, .int 2]), .emp, .emp, .emp, .emp, .emp]
theorem pre_25 (d : Int) : pre76 (en0 25 d) = some (.nx, env25 d) := by kernel_rfl
theorem chk_25 (d : Int) : chkU (env25 d) = true := by kernel_rfl
def env26 (d : Int) : En := [.val (.int 26), .val (.int d), .val (.int 25), .val (.lst [.tup [.int 2, .int 1, .int 2], .tup [.int 13, .int 1, .int 13]]), .val (.lst [.int 1, .int 3, .int 5, .int 7, .int 9, .int 11, .int 15, .int 17, .int 19, .int 21, .int 23, .int 25]), .val (.int 25), .val (.bl true), .val (.tup [.int 7, .int 11, .int 15, .int 19]), .val (.int 4), .val (.int 12), .val (.lst [.int 1, .int 3, .int 4, .int 12, .int 3, .int 12, .int 12, .int 6, .int 12, .int 4, .int 6, .int 2]), .emp, .emp, .emp, .emp, .emp]
theorem pre_26 (d : Int) : pre76 (en0 26 d) = some (.nx, env26 d) := by kernel_rfl
theorem chk_26 (d : Int) : chkU (env26 d) = true := by kernel_rfl
def env27 (d : Int) : En := [.val (.int 27), .val (.int d), .val (.int 26), .val (.lst [.tup [.int 3, .int 3, .int 27]]), .val (.lst [.int 1, .int 2, .int 4, .int 5, .int 7, .int 8, .int 10, .int 11, .int 13, .int 14, .int 16, .int 17, .int 19, .int 20, .int 22, .int 23, .int 25, .int 26]), .val (.int 26), .val (.bl true), .val (.tup [.int 2, .int 5, .int 11, .int 14, .int 20, .int 23]), .val (.int 6), .val (.int 18), .val (.lst [.int 1, .int 18, .int 9, .int 18, .int 9, .int 6, .int 3, .int 18, .int 9, .int 18, .int 9, .int 6, .int 3, .int 18, .int 9, .int 18, .int 9, .int 2]), .emp, .emp, .emp, .emp, .emp]
theorem pre_27 (d : Int) : pre76 (en0 27 d) = some (.nx, env27 d) := by kernel_rfl
theorem chk_27 (d : Int) : chkU (env27 d) = true := by kernel_rfl
def env28 (d : Int) : En := [.val (.int 28), .val (.int d), .val (.int 27), .val (.lst [.tup [.int 2, .int 2, .int 4], .tup [.int 7, .int 1, .int 7]]), .val (.lst [.int 1, .int 3, .int 5, .int 9, .int 11, .int 13, .int 15, .int 17, .int 19, .int 23, .int 25, .int 27]), .val (.int 1), .val (.bl false), .val (.tup []), .val (.int 0), .val (.int 6), .val (.lst [.int 1, .int 6, .int 6, .int 3, .int 6, .int 2, .int 2, .int 6, .int 6, .int 6, .int 3, .int 2]), .emp, .emp, .emp, .emp, .emp]
theorem pre_28 (d : Int) : pre76 (en0 28 d) = some (.nx, env28 d) := by kernel_rfl
theorem chk_28 (d : Int) : chkU (env28 d) = true := by kernel_rfl
def env29 (d : Int) : En := [.val (.int 29), .val (.int d), .val (.int 28), .val (.lst [.tup [.int 29, .int 1, .int 29]]), .val (.lst [.int 1, .int 2, .int 3, .int 4, .int 5, .int 6, .int 7, .int 8, .int 9, .int 10, .int 11, .int 12, .int 13, .int 14, .int 15, .int 16, .int 17, .int 18, .int 19, .int 20, .int 21, .int 22, .int 23, .int 24, .int 25, .int 26, .int 27, .int 28]), .val (.int 28), .val (.bl true), .val (.tup [.int 2, .int 3, .int 8, .int 10, .int 11, .int 14, .int 15, .int 18, .int 19, .int 21, .int 26, .int 27]), .val (.int 12), .val (.int 28), .val (.lst [.int 1, .int 28, .int 28, .int 14, .int 14, .int 14, .int 7, .int 28, .int 14, .int 28, .int 28, .int 4, .int 14, .int 28, .int 28, .int 7, .int 4, .int 28, .int 28, .int 7, .int 28, .int 14, .int 7, .int 7, .int 7, .int 28, .int 28, .int 2]), .emp, .emp, .emp, .emp, .emp]
theorem pre_29 (d : Int) : pre76 (en0 29 d) = some (.nx, env29 d) := by kernel_rfl
theorem chk_29 (d : Int) : chkU (env29 d) = true := by kernel_rfl
def env30 (d : Int) : En := [.val (.int 30), .val (.int d), .val (.int 29), .val (.lst [.tup [.int 2, .int 1, .int 2], .tup [.int 3, .int 1, .int 3], .tup [.int 5, .int 1, .int 5]]), .val (.lst [.int 1, .int 7, .int 11, .int 13, .int 17, .int 19, .int 23, .int 29]), .val (.int 1), .val (.bl false), .val (.tup []), .val (.int 0), .val (.int 4), .val (.lst [.int 1, .int 4, .int 2, .int 4, .int 4, .int 2, .int 4, .int 2]), .emp, .emp, .emp, .emp, .emp]
theorem pre_30 (d : Int) : pre76 (en0 30 d) = some (.nx, env30 d) := by kernel_rfl
theorem chk_30 (d : Int) : chkU (env30 d) = true := by kernel_rfl
def env31 (d : Int) : En := [.val (.int 31), .val (.int d), .val (.int 30), .val (.lst [.tup [.int 31, .int 1, .int 31]]), .val (.lst [.int 1, .int 2, .int 3, .int 4, .int 5, .int 6, .int 7, .int 8, .int 9, .int 10, .int 11, .int 12, .int 13, .int 14, .int 15, .int 16, .int 17, .int 18, .int 19, .int 20, .int 21, .int 22, .int 23, .int 24, .int 25, .int 26, .int 27, .int 28, .int 29, .int 30]), .val (.int 30), .val (.bl true), .val (.tup [.int 3, .int 11, .int 12, .int 13, .int 17, .int 21, .int 22, .int 24]), .val (.int 8), .val (.int 30), .val (.lst [.int 1, .int 5, .int 30, .int 5, .int 3, .int 6, .int 15, .int 5, .int 15, .int 15, .int 30, .int 30, .int 30, .int 15, .int 10, .int 5, .int 30, .int 15, .int 15, .int 15, .int 30, .int 30, .int 10, .int 30, .int 3, .int 6, .int 10, .int 15, .int 10, .int 2]), .emp, .emp, .emp, .emp, .emp]
theorem pre_31 (d : Int) : pre76 (en0 31 d) = some (.nx, env31 d) := by kernel_rfl
theorem chk_31 (d : Int) : chkU (env31 d) = true := by kernel_rfl
def env32 (d : Int) : En := [.val (.int 32), .val (.int d), .val (.int 31), .val (.lst [.tup [.int 2, .int 5, .int 32]]), .val (.lst [.int 1, .int 3, .int 5, .int 7, .int 9, .int 11, .int 13, .int 15, .int 17, .int 19, .int 21, .int 23, .int 25, .int 27, .int 29, .int 31]), .val (.int 1), .val (.bl false), .val (.tup []), .val (.int 0), .val (.int 8), .val (.lst [.int 1, .int 8, .int 8, .int 4, .int 4, .int 8, .int 8, .int 2, .int 2, .int 8, .int 8, .int 4, .int 4, .int 8, .int 8, .int 2]), .emp, .emp, .emp, .emp, .emp]
theorem pre_32 (d : Int) : pre76 (en0 32 d) = some (.nx, env32 d) := by kernel_rfl
theorem chk_32 (d : Int) : chkU (env32 d) = true := by kernel_rfl
def env33 (d : Int) : En := [.val (.int 33), .val (.int d), .val (.int 32), .val (.lst [.tup [.int 3, .int 1, .int 3], .tup [.int 11, .int 1, .int 11]]), .val (.lst [.int 1, .int 2, .int 4, .int 5, .int 7, .int 8, .int 10, .int 13, .int 14, .int 16, .int 17, .int 19, .int 20, .int 23, .int 25, .int 26, .int 28, .int 29, .int 31, .int 32]), .val (.int 1), .val (.bl false), .val (.tup []), .val (.int 0), .val (.int 10), .val (.lst [.int 1, .int 10, .int 5, .int 10, .int 10, .int 10, .int 2, .int 10, .int 10, .int 5, .int 10, .int 10, .int 10, .int 2, .int 5, .int 10, .int 10, .int 10, .int 5, .int 2]), .emp, .emp, .emp, .emp, .emp]
theorem pre_33 (d : Int) : pre76 (en0 33 d) = some (.nx, env33 d) := by kernel_rfl
theorem chk_33 (d : Int) : chkU (env33 d) = true := by kernel_rfl
def env34 (d : Int) : En := [.val (.int 34), .val (.int d), .val (.int 33), .val (.lst [.tup [.int 2, .int 1, .int 2], .tup [.int 17, .int 1, .int 17]]), .val (.lst [.int 1, .int 3, .int 5, .int 7, .int 9, .int 11, .int 13, .int 15, .int 19, .int 21, .int 23, .int 25, .int 27, .int 29, .int 31, .int 33]), .val (.int 33), .val (.bl true), .val (.tup [.int 3, .int 5, .int 7, .int 11, .int 23, .int 27, .int 29, .int 31]), .val (.int 8), .val (.int 16), .val (.lst [.int 1, .int 16, .int 16, .int 16, .int 8, .int 16, .int 4, .int 8, .int 8, .int 4, .int 16, .int 8, .int 16, .int 16, .int 16, .int 2]), .emp, .emp, .emp, .emp, .emp]
theorem pre_34 (d : Int) : pre76 (en0 34 d) = some (.nx, env34 d) := by kernel_rfl
theorem chk_34 (d : Int) : chkU (env34 d) = true := by kernel_rfl
def env35 (d : Int) : En := [.val (.int 35), .val (.int d), .val (.int 34), .val (.lst [.tup [.int 5, .int 1, .int 5], .tup [.int 7, .int 1, .int 7]]), .val (.lst [.int 1, .int 2, .int 3, .int 4, .int 6, .int 8, .int 9, .int 11, .int 12, .int 13, .int 16, .int 17, .int 18, .int 19, .int 22, .int 23, .int 24, .int 26, .int 27, .int 29, .int 31, .int 32, .int 33, .int 34]), .val (.int 1), .val (.bl false), .val (.tup []), .val (.int 0), .val (.int 12), .val (.lst [.int 1, .int 12, .int 12, .int 6, .int 2, .int 4, .int 6, .int 3, .int 12, .int 4, .int 3, .int 12, .int 12, .int 6, .int 4, .int 12, .int 6, .int 6, .int 4, .int 2, .int 6, .int 12, .int 12, .int 2]), .emp, .emp, .emp, .emp, .emp]
theorem pre_35 (d : Int) : pre76 (en0 35 d) = some (.nx, env35 d) := by kernel_rfl
theorem chk_35 (d : Int) : chkU (env35 d) = true := by kernel_rfl
def env36 (d : Int) : En := [.val (.int 36), .val (.int d), .val (.int 35), .val (.lst [.tup [.int 2, .int 2, .int 4], .tup [.int 3, .int 2, .int 9]]), .val (.lst [.int 1, .int 5, .int 7, .int 11, .int 13, .int 17, .int 19, .int 23, .int 25, .int 29, .int 31, .int 35]), .val (.int 1), .val (.bl false), .val (.tup []), .val (.int 0), .val (.int 6), .val (.lst [.int 1, .int 6, .int 6, .int 6, .int 3, .int 2, .int 2, .int 6, .int 3, .int 6, .int 6, .int 2]), .emp, .emp, .emp, .emp, .emp]
theorem pre_36 (d : Int) : pre76 (en0 36 d) = some (.nx, env36 d) := by kernel_rfl
theorem chk_36 (d : Int) : chkU (env36 d) = true := by kernel_rfl
def env37 (d : Int) : En := [.val (.int 37), .val (.int d), .val (.int 36), .val (.lst [.tup [.int 37, .int 1, .int 37]]), .val (.lst [.int 1, .int 2, .int 3, .int 4, .int 5, .int 6, .int 7, .int 8, .int 9, .int 10, .int 11, .int 12, .int 13, .int 14, .int 15, .int 16, .int 17, .int 18, .int 19, .int 20, .int 21, .int 22, .int 23, .int 24, .int 25, .int 26, .int 27, .int 28, .int 29, .int 30, .int 31, .int 32, .int 33, .int 34, .int 35, .int 36]), .val (.int 36), .val (.bl true), .val (.tup [.int 2, .int 5, .int 13, .int 15, .int 17, .int 18, .int 19, .int 20, .int 22, .int 24, .int 32, .int 35]), .val (.int 12), .val (.int 36), .val (.lst [.int 1, .int 36, .int 18, .int 18, .int 36, .int 4, .int 9, .int 12, .int 9, .int 3, .int 6, .int 9, .int 36, .int 12, .int 36, .int 9, .int 36, .int 36, .int 36, .int 36, .int 18, .int 36, .int 12, .int 36, .int 18, .int 3, .int 6, .int 18, .int 12, .int 18, .int 4, .int 36, .int 9, .int 9, .int 36, .int 2]), .emp, .emp, .emp, .emp, .emp]
theorem pre_37 (d : Int) : pre76 (en0 37 d) = some (.nx, env37 d) := by kernel_rfl
theorem chk_37 (d : Int) : chkU (env37 d) = true := by kernel_rfl
def env38 (d : Int) : En := [.val (.int 38), .val (.int d), .val (.int 37), .val (.lst [.tup [.int 2, .int 1, .int 2], .tup [.int 19, .int 1, .int 19]]), .val (.lst [.int 1, .int 3, .int 5, .int 7, .int 9, .int 11, .int 13, .int 15, .int 17, .int 21, .int 23, .int 25, .int 27, .int 29, .int 31, .int 33, .int 35, .int 37]), .val (.int 37), .val (.bl true), .val (.tup [.int 3, .int 13, .int 15, .int 21, .int 29, .int 33]), .val (.int 6), .val (.int 18), .val (.lst [.int 1, .int 18, .int 9, .int 3, .int 9, .int 3, .int 18, .int 18, .int 9, .int 18, .int 9, .int 9, .int 6, .int 18, .int 6, .int 18, .int 9, .int 2]), .emp, .emp, .emp, .emp, .emp]
theorem pre_38 (d : Int) : pre76 (en0 38 d) = some (.nx, env38 d) := by kernel_rfl
theorem chk_38 (d : Int) : chkU (env38 d) = true := by kernel_rfl
def env39 (d : Int) : En := [.val (.int 39), .val (.int d), .val (.int 38), .val (.lst [.tup [.int 3, .int 1, .int 3], .tup [.int 13, .int 1, .int 13]]), .val (.lst [.int 1, .int 2, .int 4, .int 5, .int 7, .int 8, .int 10, .int 11, .int 14, .int 16, .int 17, .int 19, .int 20, .int 22, .int 23, .int 25, .int 28, .int 29, .int 31, .int 32, .int 34, .int 35, .int 37, .int 38]), .val (.int 1), .val (.bl false), .val (.tup []), .val (.int 0), .val (.int 12), .val (.lst [.int 1, .int 12, .int 6, .int 4, .int 12, .int 4, .int 6, .int 12, .int 2, .int 3, .int 6, .int 12, .int 12, .int 3, .int 6, .int 2, .int 12, .int 6, .int 4, .int 12, .int 4, .int 6, .int 12, .int 2]), .emp, .emp, .emp, .emp, .emp]
theorem pre_39 (d : Int) : pre76 (en0 39 d) = some (.nx, env39 d) := by kernel_rfl
theorem chk_39 (d : Int) : chkU (env39 d) = true := by kernel_rfl
def env40 (d : Int) : En := [.val (.int 40), .val (.int d), .val (.int 39), .val (.lst [.tup [.int 2, .int 3, .int 8], .tup [.int 5, .int 1, .int 5]]), .val (.lst [.int 1, .int 3, .int 7, .int 9, .int 11, .int 13, .int 17, .int 19, .int 21, .int 23, .int 27, .int 29, .int 31, .int 33, .int 37, .int 39]), .val (.int 1), .val (.bl false), .val (.tup []), .val (.int 0), .val (.int 4), .val (.lst [.int 1, .int 4, .int 4, .int 2, .int 2, .int 4, .int 4, .int 2, .int 2, .int 4, .int 4, .int 2, .int 2, .int 4, .int 4, .int 2]), .emp, .emp, .emp, .emp, .emp]
theorem pre_40 (d : Int) : pre76 (en0 40 d) = some (.nx, env40 d) := by kernel_rfl
theorem chk_40 (d : Int) : chkU (env40 d) = true := by kernel_rfl
def env41 (d : Int) : En := [.val (.int 41), .val (.int d), .val (.int 40), .val (.lst [.tup [.int 41, .int 1, .int 41]]), .val (.lst [.int 1, .int 2, .int 3, .int 4, .int 5, .int 6, .int 7, .int 8, .int 9, .int 10, .int 11, .int 12, .int 13, .int 14, .int 15, .int 16, .int 17, .int 18, .int 19, .int 20, .int 21, .int 22, .int 23, .int 24, .int 25, .int 26, .int 27, .int 28, .int 29, .int 30, .int 31, .int 32, .int 33, .int 34, .int 35, .int 36, .int 37, .int 38, .int 39, .int 40]), .val (.int 40), .val (.bl true), .val (.tup [.int 6, .int 7, .int 11, .int 12, .int 13, .int 15, .int 17, .int 19, .int 22, .int 24, .int 26, .int 28, .int 29, .int 30, .int 34, .int 35]), .val (.int 16), .val (.int 40), .val (.lst [.int 1, .int 20, .int 8, .int 10, .int 20, .int 40, .int 40, .int 20, .int 4, .int 5, .int 40, .int 40, .int 40, .int 8, .int 40, .int 5, .int 40, .int 5, .int 40, .int 20, .int 20, .int 40, .int 10, .int 40, .int 10, .int 40, .int 8, .int 40, .int 40, .int 40, .int 10, .int 4, .int 20, .int 40, .int 40, .int 20, .int 5, .int 8, .int 20, .int 2]), .emp, .emp, .emp, .emp, .emp]
theorem pre_41 (d : Int) : pre76 (en0 41 d) = some (.nx, env41 d) := by kernel_rfl
theorem chk_41 (d : Int) : chkU (env41 d) = true := by kernel_rfl
def env42 (d : Int) : En := [.val (.int 42), .val (.int d), .val (.int 41), .val (.lst [.tup [.int 2, .int 1, .int 2], .tup [.int 3, .int 1, .int 3], .tup [.int 7, .int 1, .int 7]]), .val (.lst [.int 1, .int 5, .int 11, .int 13, .int 17, .int 19, .int 23, .int 25, .int 29, .int 31, .int 37, .int 41]), .val (.int 1), .val (.bl false), .val (.tup []), .val (.int 0), .val (.int 6), .val (.lst [.int 1, .int 6, .int 6, .int 2, .int 6, .int 6, .int 6, .int 3, .int 2, .int 6, .int 3, .int 2]), .emp, .emp, .emp, .emp, .emp]
theorem pre_42 (d : Int) : pre76 (en0 42 d) = some (.nx, env42 d) := by kernel_rfl
theorem chk_42 (d : Int) : chkU (env42 d) = true := by kernel_rfl
def env43 (d : Int) : En := [.val (.int 43), .val (.int d), .val (.int 42), .val (.lst [.tup [.int 43, .int 1, .int 43]]), .val (.lst [.int 1, .int 2, .int 3, .int 4, .int 5, .int 6, .int 7, .int 8, .int 9, .int 10, .int 11, .int 12, .int 13, .int 14, .int 15, .int 16, .int 17, .int 18, .int 19, .int 20, .int 21, .int 22, .int 23, .int 24, .int 25, .int 26, .int 27, .int 28, .int 29, .int 30, .int 31, .int 32, .int 33, .int 34, .int 35, .int 36, .int 37, .int 38, .int 39, .int 40, .int 41, .int 42]), .val (.int 42), .val (.bl true), .val (.tup [.int 3, .int 5, .int 12, .int 18, .int 19, .int 20, .int 26, .int 28, .int 29, .int 30, .int 33, .int 34]), .val (.int 12), .val (.int 42), .val (.lst [.int 1, .int 14, .int 42, .int 7, .int 42, .int 3, .int 6, .int 14, .int 21, .int 21, .int 7, .int 42, .int 21, .int 21, .int 21, .int 7, .int 21, .int 42, .int 42, .int 42, .int 7, .int 14, .int 21, .int 21, .int 21, .int 42, .int 14, .int 42, .int 42, .int 42, .int 21, .int 14, .int 42, .int 42, .int 7, .int 3, .int 6, .int 21, .int 14, .int 21, .int 7, .int 2]), .emp, .emp, .emp, .emp, .emp]
theorem pre_43 (d : Int) : pre76 (en0 43 d) = some (.nx, env43 d) := by kernel_rfl
theorem chk_43 (d : Int) : chkU (env43 d) = true := by kernel_rfl
def env44 (d : Int) : En := [.val (.int 44), .val (.int d), .val (.int 43), .val (.lst [.tup [.int 2, .int 2, .int 4], .tup [.int 11, .int 1, .int 11]]), .val (.lst [.int 1, .int 3, .int 5, .int 7, .int 9, .int 13, .int 15, .int 17, .int 19, .int 21, .int 23, .int 25, .int 27, .int 29, .int 31, .int 35, .int 37, .int 39, .int 41, .int 43]), .val (.int 1), .val (.bl false), .val (.tup []), .val (.int 0), .val (.int 10), .val (.lst [.int 1, .int 10, .int 5, .int 10, .int 5, .int 10, .int 10, .int 10, .int 10, .int 2, .int 2, .int 5, .int 10, .int 10, .int 10, .int 10, .int 5, .int 10, .int 10, .int 2]), .emp, .emp, .emp, .emp, .emp]
theorem pre_44 (d : Int) : pre76 (en0 44 d) = some (.nx, env44 d) := by kernel_rfl
theorem chk_44 (d : Int) : chkU (env44 d) = true := by kernel_rfl
def env45 (d : Int) : En := [.val (.int 45), .val (.int d), .val (.int 44), .val (.lst [.tup [.int 3, .int 2, .int 9], .tup [.int 5, .int 1, .int 5]]), .val (.lst [.int 1, .int 2, .int 4, .int 7, .int 8, .int 11, .int 13, .int 14, .int 16, .int 17, .int 19, .int 22, .int 23, .int 26, .int 28, .int 29, .int 31, .int 32, .int 34, .int 37, .int 38, .int 41, .int 43, .int 44]), .val (.int 1), .val (.bl false), .val (.tup []), .val (.int 0), .val (.int 12), .val (.lst [.int 1, .int 12, .int 6, .int 12, .int 4, .int 6, .int 12, .int 6, .int 3, .int 4, .int 2, .int 12, .int 12, .int 2, .int 4, .int 6, .int 3, .int 12, .int 6, .int 4, .int 12, .int 6, .int 12, .int 2]), .emp, .emp, .emp, .emp, .emp]
theorem pre_45 (d : Int) : pre76 (en0 45 d) = some (.nx, env45 d) := by kernel_rfl
theorem chk_45 (d : Int) : chkU (env45 d) = true := by kernel_rfl
def env46 (d : Int) : En := [.val (.int 46), .val (.int d), .val (.int 45), .val (.lst [.tup [.int 2, .int 1, .int 2], .tup [.int 23, .int 1, .int 23]]), .val (.lst [.int 1, .int 3, .int 5, .int 7, .int 9, .int 11, .int 13, .int 15, .int 17, .int 19, .int 21, .int 25, .int 27, .int 29, .int 31, .int 33, .int 35, .int 37, .int 39, .int 41, .int 43, .int 45]), .val (.int 45), .val (.bl true), .val (.tup [.int 5, .int 7, .int 11, .int 15, .int 17, .int 19, .int 21, .int 33, .int 37, .int 43]), .val (.int 10), .val (.int 22), .val (.lst [.int 1, .int 11, .int 22, .int 22, .int 11, .int 22, .int 11, .int 22, .int 22, .int 22, .int 22, .int 11, .int 11, .int 11, .int 11, .int 22, .int 11, .int 22, .int 11, .int 11, .int 22, .int 2]), .emp, .emp, .emp, .emp, .emp]
theorem pre_46 (d : Int) : pre76 (en0 46 d) = some (.nx, env46 d) := by kernel_rfl
theorem chk_46 (d : Int) : chkU (env46 d) = true := by kernel_rfl
def env47 (d : Int) : En := [.val (.int 47), .val (.int d), .val (.int 46), .val (.lst [.tup [.int 47, .int 1, .int 47]]), .val (.lst [.int 1, .int 2, .int 3, .int 4, .int 5, .int 6, .int 7, .int 8, .int 9, .int 10, .int 11, .int 12, .int 13, .int 14, .int 15, .int 16, .int 17, .int 18, .int 19, .int 20, .int 21, .int 22, .int 23, .int 24, .int 25, .int 26, .int 27, .int 28, .int 29, .int 30, .int 31, .int 32, .int 33, .int 34, .int 35, .int 36, .int 37, .int 38, .int 39, .int 40, .int 41, .int 42, .int 43, .int 44, .int 45, .int 46]), .val (.int 46), .val (.bl true), .val (.tup [.int 5, .int 10, .int 11, .int 13, .int 15, .int 19, .int 20, .int 22, .int 23, .int 26, .int 29, .int 30, .int 31, .int 33, .int 35, .int 38, .int 39, .int 40, .int 41, .int 43, .int 44, .int 45]), .val (.int 22), .val (.int 46), .val (.lst [.int 1, .int 23, .int 23, .int 23, .int 46, .int 23, .int 23, .int 23, .int 23, .int 46, .int 46, .int 23, .int 46, .int 23, .int 46, .int 23, .int 23, .int 23, .int 46, .int 46, .int 23, .int 46, .int 46, .int 23, .int 23, .int 46, .int 23, .int 23, .int 46, .int 46, .int 46, .int 23, .int 46, .int 23, .int 46, .int 23, .int 23, .int 46, .int 46, .int 46, .int 46, .int 23, .int 46, .int 46, .int 46, .int 2]), .emp, .emp, .emp, .emp, .emp]
theorem pre_47 (d : Int) : pre76 (en0 47 d) = some (.nx, env47 d) := by kernel_rfl
theorem chk_47 (d : Int) : chkU (env47 d) = true := by kernel_rfl
def env48 (d : Int) : En := [.val (.int 48), .val (.int d), .val (.int 47), .val (.lst [.tup [.int 2, .int 4, .int 16], .tup [.int 3, .int 1, .int 3]]), .val (.lst [.int 1, .int 5, .int 7, .int 11, .int 13, .int 17, .int 19, .int 23, .int 25, .int 29, .int 31, .int 35, .int 37, .int 41, .int 43, .int 47]), .val (.int 1), .val (.bl false), .val (.tup []), .val (.int 0), .val (.int 4), .val (.lst [.int 1, .int 4, .int 2, .int 4, .int 4, .int 2, .int 4, .int 2, .int 2, .int 4, .int 2, .int 4, .int 4, .int 2, .int 4, .int 2]), .emp, .emp, .emp, .emp, .emp]
theorem pre_48 (d : Int) : pre76 (en0 48 d) = some (.nx, env48 d) := by kernel_rfl
theorem chk_48 (d : Int) : chkU (env48 d) = true := by kernel_rfl
def env49 (d : Int) : En := [.val (.int 49), .val (.int d), .val (.int 48), .val (.lst [.tup [.int 7, .int 2, .int 49]]), .val (.lst [.int 1, .int 2, .int 3, .int 4, .int 5, .int 6, .int 8, .int 9, .int 10, .int 11, .int 12, .int 13, .int 15, .int 16, .int 17, .int 18, .int 19, .int 20, .int 22, .int 23, .int 24, .int 25, .int 26, .int 27, .int 29, .int 30, .int 31, .int 32, .int 33, .int 34, .int 36, .int 37, .int 38, .int 39, .int 40, .int 41, .int 43, .int 44, .int 45, .int 46, .int 47, .int 48]), .val (.int 48), .val (.bl true), .val (.tup [.int 3, .int 5, .int 10, .int 12, .int 17, .int 24, .int 26, .int 33, .int 38, .int 40, .int 45, .int 47]), .val (.int 12), .val (.int 42), .val (.lst [.int 1, .int 21, .int 42, .int 21, .int 42, .int 14, .int 7, .int 21, .int 42, .int 21, .int 42, .int 14, .int 7, .int 21, .int 42, .int 3, .int 6, .int 14, .int 7, .int 21, .int 42, .int 21, .int 42, .int 14, .int 7, .int 3, .int 6, .int 21, .int 42, .int 14, .int 7, .int 21, .int 42, .int 21, .int 42, .int 14, .int 7, .int 21, .int 42, .int 21, .int 42, .int 2]), .emp, .emp, .emp, .emp, .emp]
theorem pre_49 (d : Int) : pre76 (en0 49 d) = some (.nx, env49 d) := by kernel_rfl
theorem chk_49 (d : Int) : chkU (env49 d) = true := by kernel_rfl
def env50 (d : Int) : En := [.val (.int 50), .val (.int d), .val (.int 49), .val (.lst [.tup [.int 2, .int 1, .int 2], .tup [.int 5, .int 2, .int 25]]), .val (.lst [.int 1, .int 3, .int 7, .int 9, .int 11, .int 13, .int 17, .int 19, .int 21, .int 23, .int 27, .int 29, .int 31, .int 33, .int 37, .int 39, .int 41, .int 43, .int 47, .int 49]), .val (.int 49), .val (.bl true), .val (.tup [.int 3, .int 13, .int 17, .int 23, .int 27, .int 33, .int 37, .int 47]), .val (.int 8), .val (.int 20), .val (.lst [.int 1, .int 20, .int 4, .int 10, .int 5, .int 20, .int 20, .int 10, .int 5, .int 20, .int 20, .int 10, .int 5, .int 20, .int 20, .int 10, .int 5, .int 4, .int 20, .int 2]), .emp, .emp, .emp, .emp, .emp]
theorem pre_50 (d : Int) : pre76 (en0 50 d) = some (.nx, env50 d) := by kernel_rfl
theorem chk_50 (d : Int) : chkU (env50 d) = true := by kernel_rfl
def env51 (d : Int) : En := [.val (.int 51), .val (.int d), .val (.int 50), .val (.lst [.tup [.int 3, .int 1, .int 3], .tup [.int 17, .int 1, .int 17]]), .val (.lst [.int 1, .int 2, .int 4, .int 5, .int 7, .int 8, .int 10, .int 11, .int 13, .int 14, .int 16, .int 19, .int 20, .int 22, .int 23, .int 25, .int 26, .int 28, .int 29, .int 31, .int 32, .int 35, .int 37, .int 38, .int 40, .int 41, .int 43, .int 44, .int 46, .int 47, .int 49, .int 50]), .val (.int 1), .val (.bl false), .val (.tup []), .val (.int 0), .val (.int 16), .val (.lst [.int 1, .int 8, .int 4, .int 16, .int 16, .int 8, .int 16, .int 16, .int 4, .int 16, .int 2, .int 8, .int 16, .int 16, .int 16, .int 8, .int 8, .int 16, .int 16, .int 16, .int 8, .int 2, .int 16, .int 4, .int 16, .int 16, .int 8, .int 16, .int 16, .int 4, .int 8, .int 2]), .emp, .emp, .emp, .emp, .emp]
theorem pre_51 (d : Int) : pre76 (en0 51 d) = some (.nx, env51 d) := by kernel_rfl
theorem chk_51 (d : Int) : chkU (env51 d) = true := by kernel_rfl
def env52 (d : Int) : En := [.val (.int 52), .val (.int d), .val (.int 51), .val (.lst [.tup [.int 2, .int 2, .int 4], .tup [.int 13, .int 1, .int 13]]), .val (.lst [.int 1, .int 3, .int 5, .int 7, .int 9, .int 11, .int 15, .int 17, .int 19, .int 21, .int 23, .int 25, .int 27, .int 29, .int 31, .int 33, .int 35, .int 37, .int 41, .int 43, .int 45, .int 47, .int 49, .int 51]), .val (.int 1), .val (.bl false), .val (.tup []), .val (.int 0), .val (.int 12), .val (.lst [.int 1, .int 6, .int 4, .int 12, .int 3, .int 12, .int 12, .int 6, .int 12, .int 4, .int 6, .int 2, .int 2, .int 3, .int 4, .int 12, .int 6, .int 12, .int 12, .int 6, .int 12, .int 4, .int 6, .int 2]), .emp, .emp, .emp, .emp, .emp]
theorem pre_52 (d : Int) : pre76 (en0 52 d) = some (.nx, env52 d) := by kernel_rfl
theorem chk_52 (d : Int) : chkU (env52 d) = true := by kernel_rfl
def env53 (d : Int) : En := [.val (.int 53), .val (.int d), .val (.int 52), .val (.lst [.tup [.int 53, .int 1, .int 53]]), .val (.lst [.int 1, .int 2, .int 3, .int 4, .int 5, .int 6, .int 7, .int 8, .int 9, .int 10, .int 11, .int 12, .int 13, .int 14, .int 15, .int 16, .int 17, .int 18, .int 19, .int 20, .int 21, .int 22, .int 23, .int 24, .int 25, .int 26, .int 27, .int 28, .int 29, .int 30, .int 31, .int 32, .int 33, .int 34, .int 35, .int 36, .int 37, .int 38, .int 39, .int 40, .int 41, .int 42, .int 43, .int 44, .int 45, .int 46, .int 47, .int 48, .int 49, .int 50, .int 51, .int 52]), .val (.int 52), .val (.bl true), .val (.tup [.int 2, .int 3, .int 5, .int 8, .int 12, .int 14, .int 18, .int 19, .int 20, .int 21, .int 22, .int 26, .int 27, .int 31, .int 32, .int 33, .int 34, .int 35, .int 39, .int 41, .int 45, .int 48, .int 50, .int 51]), .val (.int 24), .val (.int 52), .val (.lst [.int 1, .int 52, .int 52, .int 26, .int 52, .int 26, .int 26, .int 52, .int 26, .int 13, .int 26, .int 52, .int 13, .int 52, .int 13, .int 13, .int 26, .int 52, .int 52, .int 52, .int 52, .int 52, .int 4, .int 13, .int 26, .int 52, .int 52, .int 13, .int 26, .int 4, .int 52, .int 52, .int 52, .int 52, .int 52, .int 13, .int 26, .int 26, .int 52, .int 26, .int 52, .int 13, .int 26, .int 13, .int 52, .int 13, .int 13, .int 52, .int 13, .int 52, .int 52, .int 2]), .emp, .emp, .emp, .emp, .emp]
theorem pre_53 (d : Int) : pre76 (en0 53 d) = some (.nx, env53 d) := by kernel_rfl
theorem chk_53 (d : Int) : chkU (env53 d) = true := by kernel_rfl
def env54 (d : Int) : En := [.val (.int 54), .val (.int d), .val (.int 53), .val (.lst [.tup [.int 2, .int 1, .int 2], .tup [.int 3, .int 3, .int 27]]), .val (.lst [.int 1, .int 5, .int 7, .int 11, .int 13, .int 17, .int 19, .int 23, .int 25, .int 29, .int 31, .int 35, .int 37, .int 41, .int 43, .int 47, .int 49, .int 53]), .val (.int 53), .val (.bl true), .val (.tup [.int 5, .int 11, .int 23, .int 29, .int 41, .int 47]), .val (.int 6), .val (.int 18), .val (.lst [.int 1, .int 18, .int 9, .int 18, .int 9, .int 6, .int 3, .int 18, .int 9, .int 18, .int 9, .int 6, .int 3, .int 18, .int 9, .int 18, .int 9, .int 2]), .emp, .emp, .emp, .emp, .emp]
theorem pre_54 (d : Int) : pre76 (en0 54 d) = some (.nx, env54 d) := by kernel_rfl
theorem chk_54 (d : Int) : chkU (env54 d) = true := by kernel_rfl
def env55 (d : Int) : En := [.val (.int 55), .val (.int d), .val (.int 54), .val (.lst [.tup [.int 5, .int 1, .int 5], .tup [.int 11, .int 1, .int 11]]), .val (.lst [.int 1, .int 2, .int 3, .int 4, .int 6, .int 7, .int 8, .int 9, .int 12, .int 13, .int 14, .int 16, .int 17, .int 18, .int 19, .int 21, .int 23, .int 24, .int 26, .int 27, .int 28, .int 29, .int 31, .int 32, .int 34, .int 36, .int 37, .int 38, .int 39, .int 41, .int 42, .int 43, .int 46, .int 47, .int 48, .int 49, .int 51, .int 52, .int 53, .int 54]), .val (.int 1), .val (.bl false), .val (.tup []), .val (.int 0), .val (.int 20), .val (.lst [.int 1, .int 20, .int 20, .int 10, .int 10, .int 20, .int 20, .int 10, .int 4, .int 20, .int 10, .int 5, .int 20, .int 20, .int 10, .int 2, .int 4, .int 10, .int 5, .int 20, .int 20, .int 10, .int 5, .int 4, .int 2, .int 5, .int 20, .int 20, .int 10, .int 10, .int 20, .int 4, .int 10, .int 20, .int 20, .int 10, .int 10, .int 20, .int 20, .int 2]), .emp, .emp, .emp, .emp, .emp]
theorem pre_55 (d : Int) : pre76 (en0 55 d) = some (.nx, env55 d) := by kernel_rfl
theorem chk_55 (d : Int) : chkU (env55 d) = true := by kernel_rfl
def env56 (d : Int) : En := [.val (.int 56), .val (.int d), .val (.int 55), .val (.lst [.tup [.int 2, .int 3, .int 8], .tup [.int 7, .int 1, .int 7]]), .val (.lst [.int 1, .int 3, .int 5, .int 9, .int 11, .int 13, .int 15, .int 17, .int 19, .int 23, .int 25, .int 27, .int 29, .int 31, .int 33, .int 37, .int 39, .int 41, .int 43, .int 45, .int 47, .int 51, .int 53, .int 55]), .val (.int 1), .val (.bl false), .val (.tup []), .val (.int 0), .val (.int 6), .val (.lst [.int 1, .int 6, .int 6, .int 3, .int 6, .int 2, .int 2, .int 6, .int 6, .int 6, .int 3, .int 2, .int 2, .int 6, .int 6, .int 6, .int 6, .int 2, .int 2, .int 6, .int 6, .int 6, .int 6, .int 2]), .emp, .emp, .emp, .emp, .emp]
theorem pre_56 (d : Int) : pre76 (en0 56 d) = some (.nx, env56 d) := by kernel_rfl
theorem chk_56 (d : Int) : chkU (env56 d) = true := by kernel_rfl
def env57 (d : Int) : En := [.val (.int 57), .val (.int d), .val (.int 56), .val (.lst [.tup [.int 3, .int 1, .int 3], .tup [.int 19, .int 1, .int 19]]), .val (.lst [.int 1, .int 2, .int 4, .int 5, .int 7, .int 8, .int 10, .int 11, .int 13, .int 14, .int 16, .int 17, .int 20, .int 22, .int 23, .int 25, .int 26, .int 28, .int 29, .int 31, .int 32, .int 34, .int 35, .int 37, .int 40, .int 41, .int 43, .int 44, .int 46, .int 47, .int 49, .int 50, .int 52, .int 53, .int 55, .int 56]), .val (.int 1), .val (.bl false), .val (.tup []), .val (.int 0), .val (.int 18), .val (.lst [.int 1, .int 18, .int 9, .int 18, .int 3, .int 6, .int 18, .int 6, .int 18, .int 18, .int 9, .int 18, .int 2, .int 18, .int 18, .int 9, .int 6, .int 9, .int 18, .int 6, .int 18, .int 18, .int 18, .int 2, .int 18, .int 18, .int 9, .int 18, .int 6, .int 18, .int 3, .int 6, .int 18, .int 18, .int 9, .int 2]), .emp, .emp, .emp, .emp, .emp]
theorem pre_57 (d : Int) : pre76 (en0 57 d) = some (.nx, env57 d) := by kernel_rfl
theorem chk_57 (d : Int) : chkU (env57 d) = true := by kernel_rfl
def env58 (d : Int) : En := [.val (.int 58), .val (.int d), .val (.int 57), .val (.lst [.tup [.int 2, .int 1, .int 2], .tup [.int 29, .int 1, .int 29]]), .val (.lst [.int 1, .int 3, .int 5, .int 7, .int 9, .int 11, .int 13, .int 15, .int 17, .int 19, .int 21, .int 23, .int 25, .int 27, .int 31, .int 33, .int 35, .int 37, .int 39, .int 41, .int 43, .int 45, .int 47, .int 49, .int 51, .int 53, .int 55, .int 57]), .val (.int 57), .val (.bl true), .val (.tup [.int 3, .int 11, .int 15, .int 19, .int 21, .int 27, .int 31, .int 37, .int 39, .int 43, .int 47, .int 55]), .val (.int 12), .val (.int 28), .val (.lst [.int 1, .int 28, .int 14, .int 7, .int 14, .int 28, .int 14, .int 28, .int 4, .int 28, .int 28, .int 7, .int 7, .int 28, .int 28, .int 14, .int 14, .int 28, .int 28, .int 4, .int 28, .int 7, .int 28, .int 7, .int 14, .int 7, .int 28, .int 2]), .emp, .emp, .emp, .emp, .emp]
theorem pre_58 (d : Int) : pre76 (en0 58 d) = some (.nx, env58 d) := by kernel_rfl
theorem chk_58 (d : Int) : chkU (env58 d) = true := by kernel_rfl
def env59 (d : Int) : En := [.val (.int 59), .val (.int d), .val (.int 58), .val (.lst [.tup [.int 59, .int 1, .int 59]]), .val (.lst [.int 1, .int 2, .int 3, .int 4, .int 5, .int 6, .int 7, .int 8, .int 9, .int 10, .int 11, .int 12, .int 13, .int 14, .int 15, .int 16, .int 17, .int 18, .int 19, .int 20, .int 21, .int 22, .int 23, .int 24, .int 25, .int 26, .int 27, .int 28, .int 29, .int 30, .int 31, .int 32, .int 33, .int 34, .int 35, .int 36, .int 37, .int 38, .int 39, .int 40, .int 41, .int 42, .int 43, .int 44, .int 45, .int 46, .int 47, .int 48, .int 49, .int 50, .int 51, .int 52, .int 53, .int 54, .int 55, .int 56, .int 57, .int 58]), .val (.int 58), .val (.bl true), .val (.tup [.int 2, .int 6, .int 8, .int 10, .int 11, .int 13, .int 14, .int 18, .int 23, .int 24, .int 30, .int 31, .int 32, .int 33, .int 34, .int 37, .int 38, .int 39, .int 40, .int 42, .int 43, .int 44, .int 47, .int 50, .int 52, .int 54, .int 55, .int 56]), .val (.int 28), .val (.int 58), .val (.lst [.int 1, .int 58, .int 29, .int 29, .int 29, .int 58, .int 29, .int 58, .int 29, .int 58, .int 58, .int 29, .int 58, .int 58, .int 29, .int 29, .int 29, .int 58, .int 29, .int 29, .int 29, .int 29, .int 58, .int 58, .int 29, .int 29, .int 29, .int 29, .int 29, .int 58, .int 58, .int 58, .int 58, .int 58, .int 29, .int 29, .int 58, .int 58, .int 58, .int 58, .int 29, .int 58, .int 58, .int 58, .int 29, .int 29, .int 58, .int 29, .int 29, .int 58, .int 29, .int 58, .int 29, .int 58, .int 58, .int 58, .int 29, .int 2]), .emp, .emp, .emp, .emp, .emp]
theorem pre_59 (d : Int) : pre76 (en0 59 d) = some (.nx, env59 d) := by kernel_rfl
theorem chk_59 (d : Int) : chkU (env59 d) = true := by kernel_rfl
def env60 (d : Int) : En := [.val (.int 60), .val (.int d), .val (.int 59), .val (.lst [.tup [.int 2, .int 2, .int 4], .tup [.int 3, .int 1, .int 3], .tup [.int 5, .int 1, .int 5]]), .val (.lst [.int 1, .int 7, .int 11, .int 13, .int 17, .int 19, .int 23, .int 29, .int 31, .int 37, .int 41, .int 43, .int 47, .int 49, .int 53, .int 59]), .val (.int 1), .val (.bl false), .val (.tup []), .val (.int 0), .val (.int 4), .val (.lst [.int 1, .int 4, .int 2, .int 4, .int 4, .int 2, .int 4, .int 2, .int 2, .int 4, .int 2, .int 4, .int 4, .int 2, .int 4, .int 2]), .emp, .emp, .emp, .emp, .emp]
theorem pre_60 (d : Int) : pre76 (en0 60 d) = some (.nx, env60 d) := by kernel_rfl
theorem chk_60 (d : Int) : chkU (env60 d) = true := by kernel_rfl
theorem ring_ok (n : Nat) (d : Int) (h : 2 ≤ n) (h2 : n ≤ 60) : ∃ Γ, pre76 (en0 n d) = some (.nx, Γ) ∧ chkU Γ = true ∧ ∃ us, Γ[4]? = some (.val (.lst us)) ∧ 0 < us.length ∧ Γ[1]? = some (.val (.int d)) := by
  rcases (show n = 2 ∨ n = 3 ∨ n = 4 ∨ n = 5 ∨ n = 6 ∨ n = 7 ∨ n = 8 ∨ n = 9 ∨ n = 10 ∨ n = 11 ∨ n = 12 ∨ n = 13 ∨ n = 14 ∨ n = 15 ∨ n = 16 ∨ n = 17 ∨ n = 18 ∨ n = 19 ∨ n = 20 ∨ n = 21 ∨ n = 22 ∨ n = 23 ∨ n = 24 ∨ n = 25 ∨ n = 26 ∨ n = 27 ∨ n = 28 ∨ n = 29 ∨ n = 30 ∨ n = 31 ∨ n = 32 ∨ n = 33 ∨ n = 34 ∨ n = 35 ∨ n = 36 ∨ n = 37 ∨ n = 38 ∨ n = 39 ∨ n = 40 ∨ n = 41 ∨ n = 42 ∨ n = 43 ∨ n = 44 ∨ n = 45 ∨ n = 46 ∨ n = 47 ∨ n = 48 ∨ n = 49 ∨ n = 50 ∨ n = 51 ∨ n = 52 ∨ n = 53 ∨ n = 54 ∨ n = 55 ∨ n = 56 ∨ n = 57 ∨ n = 58 ∨ n = 59 ∨ n = 60 by omega) with rfl | rfl | rfl | rfl | rfl | rfl | rfl | rfl | rfl | rfl | rfl | rfl | rfl | rfl | rfl | rfl | rfl | rfl | rfl | rfl | rfl | rfl | rfl | rfl | rfl | rfl | rfl | rfl | rfl | rfl | rfl | rfl | rfl | rfl | rfl | rfl | rfl | rfl | rfl | rfl | rfl | rfl | rfl | rfl | rfl | rfl | rfl | rfl | rfl | rfl | rfl | rfl | rfl | rfl | rfl | rfl | rfl | rfl | rfl
  · exact ⟨env2 d, pre_2 d, chk_2 d, _, rfl, by decide, rfl⟩
  · exact ⟨env3 d, pre_3 d, chk_3 d, _, rfl, by decide, rfl⟩
  · exact ⟨env4 d, pre_4 d, chk_4 d, _, rfl, by decide, rfl⟩
  · exact ⟨env5 d, pre_5 d, chk_5 d, _, rfl, by decide, rfl⟩
  · exact ⟨env6 d, pre_6 d, chk_6 d, _, rfl, by decide, rfl⟩
  · exact ⟨env7 d, pre_7 d, chk_7 d, _, rfl, by decide, rfl⟩
  · exact ⟨env8 d, pre_8 d, chk_8 d, _, rfl, by decide, rfl⟩
  · exact ⟨env9 d, pre_9 d, chk_9 d, _, rfl, by decide, rfl⟩
  · exact ⟨env10 d, pre_10 d, chk_10 d, _, rfl, by decide, rfl⟩
  · exact ⟨env11 d, pre_11 d, chk_11 d, _, rfl, by decide, rfl⟩
  · exact ⟨env12 d, pre_12 d, chk_12 d, _, rfl, by decide, rfl⟩
  · exact ⟨env13 d, pre_13 d, chk_13 d, _, rfl, by decide, rfl⟩
  · exact ⟨env14 d, pre_14 d, chk_14 d, _, rfl, by decide, rfl⟩
  · exact ⟨env15 d, pre_15 d, chk_15 d, _, rfl, by decide, rfl⟩
  · exact ⟨env16 d, pre_16 d, chk_16 d, _, rfl, by decide, rfl⟩
  · exact ⟨env17 d, pre_17 d, chk_17 d, _, rfl, by decide, rfl⟩
  · exact ⟨env18 d, pre_18 d, chk_18 d, _, rfl, by decide, rfl⟩
  · exact ⟨env19 d, pre_19 d, chk_19 d, _, rfl, by decide, rfl⟩
  · exact ⟨env20 d, pre_20 d, chk_20 d, _, rfl, by decide, rfl⟩
  · exact ⟨env21 d, pre_21 d, chk_21 d, _, rfl, by decide, rfl⟩
  · exact ⟨env22 d, pre_22 d, chk_22 d, _, rfl, by decide, rfl⟩
  · exact ⟨env23 d, pre_23 d, chk_23 d, _, rfl, by decide, rfl⟩
  · exact ⟨env24 d, pre_24 d, chk_24 d, _, rfl, by decide, rfl⟩
  · exact ⟨env25 d, pre_25 d, chk_25 d, _, rfl, by decide, rfl⟩
  · exact ⟨env26 d, pre_26 d, chk_26 d, _, rfl, by decide, rfl⟩
  · exact ⟨env27 d, pre_27 d, chk_27 d, _, rfl, by decide, rfl⟩
  · exact ⟨env28 d, pre_28 d, chk_28 d, _, rfl, by decide, rfl⟩
  · exact ⟨env29 d, pre_29 d, chk_29 d, _, rfl, by decide, rfl⟩
  · exact ⟨env30 d, pre_30 d, chk_30 d, _, rfl, by decide, rfl⟩
  · exact ⟨env31 d, pre_31 d, chk_31 d, _, rfl, by decide, rfl⟩
  · exact ⟨env32 d, pre_32 d, chk_32 d, _, rfl, by decide, rfl⟩
  · exact ⟨env33 d, pre_33 d, chk_33 d, _, rfl, by decide, rfl⟩
  · exact ⟨env34 d, pre_34 d, chk_34 d, _, rfl, by decide, rfl⟩
  · exact ⟨env35 d, pre_35 d, chk_35 d, _, rfl, by decide, rfl⟩
  · exact ⟨env36 d, pre_36 d, chk_36 d, _, rfl, by decide, rfl⟩
  · exact ⟨env37 d, pre_37 d, chk_37 d, _, rfl, by decide, rfl⟩
  · exact ⟨env38 d, pre_38 d, chk_38 d, _, rfl, by decide, rfl⟩
  · exact ⟨env39 d, pre_39 d, chk_39 d, _, rfl, by decide, rfl⟩
  · exact ⟨env40 d, pre_40 d, chk_40 d, _, rfl, by decide, rfl⟩
  · exact ⟨env41 d, pre_41 d, chk_41 d, _, rfl, by decide, rfl⟩
  · exact ⟨env42 d, pre_42 d, chk_42 d, _, rfl, by decide, rfl⟩
  · exact ⟨env43 d, pre_43 d, chk_43 d, _, rfl, by decide, rfl⟩
  · exact ⟨env44 d, pre_44 d, chk_44 d, _, rfl, by decide, rfl⟩
  · exact ⟨env45 d, pre_45 d, chk_45 d, _, rfl, by decide, rfl⟩
  · exact ⟨env46 d, pre_46 d, chk_46 d, _, rfl, by decide, rfl⟩
  · exact ⟨env47 d, pre_47 d, chk_47 d, _, rfl, by decide, rfl⟩
  · exact ⟨env48 d, pre_48 d, chk_48 d, _, rfl, by decide, rfl⟩
  · exact ⟨env49 d, pre_49 d, chk_49 d, _, rfl, by decide, rfl⟩
  · exact ⟨env50 d, pre_50 d, chk_50 d, _, rfl, by decide, rfl⟩
  · exact ⟨env51 d, pre_51 d, chk_51 d, _, rfl, by decide, rfl⟩
  · exact ⟨env52 d, pre_52 d, chk_52 d, _, rfl, by decide, rfl⟩
  · exact ⟨env53 d, pre_53 d, chk_53 d, _, rfl, by decide, rfl⟩
  · exact ⟨env54 d, pre_54 d, chk_54 d, _, rfl, by decide, rfl⟩
  · exact ⟨env55 d, pre_55 d, chk_55 d, _, rfl, by decide, rfl⟩
  · exact ⟨env56 d, pre_56 d, chk_56 d, _, rfl, by decide, rfl⟩
  · exact ⟨env57 d, pre_57 d, chk_57 d, _, rfl, by decide, rfl⟩
  · exact ⟨env58 d, pre_58 d, chk_58 d, _, rfl, by decide, rfl⟩
  · exact ⟨env59 d, pre_59 d, chk_59 d, _, rfl, by decide, rfl⟩
  · exact ⟨env60 d, pre_60 d, chk_60 d, _, rfl, by decide, rfl⟩
theorem E_ring (n : Nat) (d : Int) (h : 2 ≤ n) (h2 : n ≤ 60) : m__law_ring_right [.int n, .int d] = some (.bl true) := by
  obtain ⟨Γ, e, c, us, h4, hu, h1⟩ := ring_ok n d h h2
  refine run_q rfl ?_
  rw [← ring_split]
  refine q_nx (Γ := en0 n d) e ?_
  obtain ⟨j, hj, bj⟩ := (show ∃ j : Nat, d % (us.length : Int) = j ∧ (j : Int) < us.length from by
    have h0 := Int.emod_nonneg d (show (us.length : Int) ≠ 0 by omega)
    obtain ⟨j, hj⟩ := Int.eq_ofNat_of_zero_le h0
    exact ⟨j, hj, by rw [← hj]; exact Int.emod_lt_of_pos d (by omega)⟩)
  have hx : us[j]? = some (us[j]'(by omega)) := List.getElem?_eq_getElem (by omega)
  have m1 : mVarB 1 Γ = some (.int d) := by unfold mVarB; rw [h1]
  have m4 : mVarB 4 Γ = some (.lst us) := by unfold mVarB; rw [h4]
  refine q_set (d := us[j]'(by omega)) ?_ (q_ret ?_)
  · refine (mBin_of (x := .lst us) (y := .int j) m4 (hj ▸ mod_of (ev1 m1 rfl) (ev1 m4 rfl) (by omega))).trans ?_
    exact atI_nat hx
  · unfold chkU at c
    rw [h4] at c
    exact isT_eq (List.all_eq_true.mp c _ (List.mem_of_getElem? hx))
end K76

set_option Elab.async false
set_option linter.all false
set_option maxRecDepth 100000
set_option maxHeartbeats 4000000
set_option autoImplicit false
namespace K76
open PySem PySem.Spec PyProof.Rows L2 SK
/-! ### curves, plainly -/
def PR : List Nat := [5, 7, 11, 13, 17, 19, 23]
def rtT : Nat → List (List Nat)
  | 5 => [[0], [1, 4], [], [], [2, 3]]
  | 7 => [[0], [1, 6], [3, 4], [], [2, 5], [], []]
  | 11 => [[0], [1, 10], [], [5, 6], [2, 9], [4, 7], [], [], [], [3, 8], []]
  | 13 => [[0], [1, 12], [], [4, 9], [2, 11], [], [], [], [], [3, 10], [6, 7], [], [5, 8]]
  | 17 => [[0], [1, 16], [6, 11], [], [2, 15], [], [], [], [5, 12], [3, 14], [], [], [], [8, 9], [], [7, 10], [4, 13]]
  | 19 => [[0], [1, 18], [], [], [2, 17], [9, 10], [5, 14], [8, 11], [], [3, 16], [], [7, 12], [], [], [], [], [4, 15], [6, 13], []]
  | 23 => [[0], [1, 22], [5, 18], [7, 16], [2, 21], [], [11, 12], [], [10, 13], [3, 20], [], [], [9, 14], [6, 17], [], [], [4, 19], [], [8, 15], [], [], [], []]
  | _ => []
def rt (p s : Nat) : List Nat := (rtT p).getD s []
def sideN (a b p x : Nat) : Nat := (x * x * x + a * x + b) % p
def ptsN (a b p : Nat) : List (Nat × Nat) := (List.range p).flatMap fun x => (rt p (sideN a b p x)).map fun y => (x, y)
def SN (a b p : Nat) : Int := (List.range p).foldl (fun s x => s + (((rt p (sideN a b p x)).length : Int) - 1)) 0
def invP (z p : Nat) : Nat := z ^ (p - 2) % p
def addN (a p : Nat) : Option (Nat × Nat) → Option (Nat × Nat) → Option (Nat × Nat)
  | none, Q => Q
  | some P, none => some P
  | some (x, y), some (z, w) => if x = z ∧ (y + w) % p = 0 then none else
      let rise := if x = z ∧ y = w then (3 * x * x + a) * invP (2 * y % p) p % p else (w + p - y) * invP ((z + p - x) % p) p % p
      let u := (rise * rise + 2 * p - x - z) % p
      some (u, (rise * (x + p - u) + p - y) % p)
theorem rt_all : PR.all (fun p => (List.range p).all fun s => decide (((List.range p).filter fun y => y * y % p == s) = rt p s)) = true := by decide +kernel
theorem sg_all : PR.all (fun p => (List.range p).all fun s => decide (signN s p = ((rt p s).length : Int) - 1) && decide ((rt p s).length ≤ 2)) = true := by decide +kernel
theorem rt_ok {p s : Nat} (hp : p ∈ PR) (hs : s < p) : ((List.range p).filter fun y => y * y % p == s) = rt p s :=
  of_decide_eq_true (List.all_eq_true.mp (List.all_eq_true.mp rt_all p hp) s (List.mem_range.mpr hs))
theorem sg_ok {p s : Nat} (hp : p ∈ PR) (hs : s < p) : signN s p = ((rt p s).length : Int) - 1 ∧ (rt p s).length ≤ 2 := by
  have := List.all_eq_true.mp (List.all_eq_true.mp sg_all p hp) s (List.mem_range.mpr hs)
  simp only [Bool.and_eq_true, decide_eq_true_eq] at this
  exact this
theorem PR_b {p : Nat} (hp : p ∈ PR) : 5 ≤ p ∧ p ≤ 23 := by
  unfold PR at hp
  simp only [List.mem_cons, List.not_mem_nil, or_false] at hp
  omega
theorem side_lt {a b p x : Nat} (h : 0 < p) : sideN a b p x < p := Nat.mod_lt _ h
/-! ### ints that are naturals -/
section
variable {m n : ME} {Γ : En} {x y : Nat}
theorem mulN (hm : m Γ = some (.int x)) (hn : n Γ = some (.int y)) (h : y < 18446744073709551616) : mBin dMulI m n Γ = some (.int ((x * y : Nat) : Int)) := (mBin_of hm hn).trans (mulI_ok (okMul_r (by rw [Int.natAbs_natCast]; exact h)))
theorem mulNl (hm : m Γ = some (.int x)) (hn : n Γ = some (.int y)) (h : x < 18446744073709551616) : mBin dMulI m n Γ = some (.int ((x * y : Nat) : Int)) := (mBin_of hm hn).trans (mulI_nat h)
theorem addN' (hm : m Γ = some (.int x)) (hn : n Γ = some (.int y)) : mBin dAdd m n Γ = some (.int ((x + y : Nat) : Int)) := (mBin_of hm hn).trans rfl
theorem modN (hm : m Γ = some (.int x)) (hn : n Γ = some (.int y)) (h : 0 < y) : mBin dMod m n Γ = some (.int ((x % y : Nat) : Int)) := (mBin_of hm hn).trans (mod_nat h)
theorem subI {i j : Int} (hm : m Γ = some (.int i)) (hn : n Γ = some (.int j)) : mBin dSub m n Γ = some (.int (i - j)) := (mBin_of hm hn).trans rfl
theorem eqN (hm : m Γ = some (.int x)) (hn : n Γ = some (.int y)) : mTB (mBin dEq m n) Γ = some (decide (x = y)) := mTB_of ((mBin_of hm hn).trans (deq_nat x y))
theorem eqI0 {i : Int} (hm : m Γ = some (.int i)) : mTB (mBin dEq m (mC (.int 0))) Γ = some (decide (i = 0)) := mTB_of ((mBin_of hm rfl).trans (by
  show some (D.bl (i == 0)) = _
  by_cases h : i = 0
  · rw [decide_eq_true h, beq_iff_eq.mpr h]
  · rw [decide_eq_false h, beq_eq_false_iff_ne.mpr h]))
end
def cv (a b p : Nat) : D := .tup [.int a, .int b, .int p]
theorem E_side (a b p x : Nat) (hp : 0 < p) (hx : x < 1000) : m__law_side [cv a b p, .int x] = some (.int (sideN a b p x)) := by
  refine run_q rfl ?_
  unfold b__law_side
  refine q_nx (Γ1 := [.val (cv a b p), .val (.int x), .val (.int a), .val (.int b), .val (.int p)]) rfl (q_ret ?_)
  exact modN (ev1 (d := .int (x * x * x + a * x + b : Nat)) (addN' (addN' (mulN (mulN rfl rfl (by omega)) rfl (by omega)) (mulN rfl rfl (by omega))) rfl) rfl) rfl hp
theorem cond_eq (a b p x y : Nat) : decide (((((y * y : Nat) : Int) - ((x * x * x : Nat) : Int)) - ((a * x : Nat) : Int) - (b : Int)) % (p : Int) = 0) = (y * y % p == sideN a b p x) := by
  have e : ((((y * y : Nat) : Int) - ((x * x * x : Nat) : Int)) - ((a * x : Nat) : Int) - (b : Int)) = ((y * y : Nat) : Int) - ((x * x * x + a * x + b : Nat) : Int) := by omega
  rw [e]
  unfold sideN
  generalize y * y = A
  generalize x * x * x + a * x + b = B
  have i1 : ((A : Int) % (p : Int) = (B : Int) % (p : Int)) ↔ (A % p = B % p) := by
    rw [← Int.natCast_emod, ← Int.natCast_emod]; omega
  by_cases h : A % p = B % p
  · rw [beq_iff_eq.mpr h, decide_eq_true (Int.emod_eq_emod_iff_emod_sub_eq_zero.mp (i1.mpr h))]
  · rw [beq_eq_false_iff_ne.mpr h, decide_eq_false (fun c => h (i1.mp (Int.emod_eq_emod_iff_emod_sub_eq_zero.mpr c)))]
theorem cond2_eq (p s y : Nat) (hs : s < p) : decide ((((y * y : Nat) : Int) - (s : Int)) % (p : Int) = 0) = (y * y % p == s) := by
  generalize y * y = A
  have i1 : ((A : Int) % (p : Int) = (s : Int) % (p : Int)) ↔ (A % p = s) := by
    rw [← Int.natCast_emod, ← Int.natCast_emod, Nat.mod_eq_of_lt hs]; omega
  by_cases h : A % p = s
  · rw [beq_iff_eq.mpr h, decide_eq_true (Int.emod_eq_emod_iff_emod_sub_eq_zero.mp (i1.mpr h))]
  · rw [beq_eq_false_iff_ne.mpr h, decide_eq_false (fun c => h (i1.mp (Int.emod_eq_emod_iff_emod_sub_eq_zero.mpr c)))]
def pt (q : Nat × Nat) : D := .tup [.int q.1, .int q.2]
theorem lc2_flat {g g1 : MG} {c c1 : MT} {ml1 : ML} {el : ME} {vs1 : List Nat} {Γ : En} {α : Type} (en : α → D) (r : α → List D) : ∀ (xs : List α), (∀ x ∈ xs, ∃ Γ1 ys, g (en x) Γ = some Γ1 ∧ c Γ1 = some true ∧ ml1 Γ1 = some ys ∧ mLcL g1 c1 el (wipeE Γ1 vs1) ys = some (r x)) → mLc2L g c ml1 g1 c1 el vs1 Γ (xs.map en) = some (xs.flatMap r)
  | [], _ => rfl
  | x :: xs, h => by
    obtain ⟨Γ1, ys, e1, e2, e3, e4⟩ := h x List.mem_cons_self
    have ih := lc2_flat en r xs fun y hy => h y (List.mem_cons_of_mem _ hy)
    show (g (en x) Γ).bind _ = _
    rw [e1]
    show (c Γ1).bind _ = _
    rw [e2]
    show (ml1 Γ1).bind _ = _
    rw [e3]
    show (mLcL g1 c1 el (wipeE Γ1 vs1) ys).bind _ = _
    rw [e4]
    show (mLc2L g c ml1 g1 c1 el vs1 Γ (xs.map en)).map _ = _
    rw [ih]; rfl
theorem mLc2_of {g g1 : MG} {c c1 : MT} {ml ml1 : ML} {el : ME} {vs vs1 : List Nat} {Γ : En} {xs ys : List D} (h : ml Γ = some xs) (h2 : mLc2L g c ml1 g1 c1 el vs1 (wipeE Γ vs) xs = some ys) (hl : ys.length ≤ LIM) : mLc2 ml g c ml1 g1 c1 el vs vs1 Γ = some (.lst ys) := by
  unfold mLc2
  rw [h, Option.bind_some, h2, Option.bind_some, if_pos hl]
theorem rt_len {p s : Nat} (hp : p ∈ PR) (hs : s < p) : (rt p s).length ≤ 2 := (sg_ok hp hs).2
theorem flat_len {α β : Type} (f : α → List β) (k : Nat) : ∀ xs : List α, (∀ x ∈ xs, (f x).length ≤ k) → (xs.flatMap f).length ≤ k * xs.length
  | [], _ => Nat.zero_le _
  | x :: xs, h => by
    have := flat_len f k xs fun y hy => h y (List.mem_cons_of_mem _ hy)
    have h1 := h x List.mem_cons_self
    rw [List.flatMap_cons, List.length_append, List.length_cons, Nat.mul_add]
    omega
theorem pts_len {a b p : Nat} (hp : p ∈ PR) : (ptsN a b p).length ≤ 46 := by
  have hb := PR_b hp
  have := flat_len (fun x => (rt p (sideN a b p x)).map fun y => (x, y)) 2 (List.range p) fun x _ => by
    rw [List.length_map]; exact rt_len hp (side_lt (by omega))
  rw [List.length_range] at this
  show (List.flatMap _ _).length ≤ 46
  omega
theorem pts_D {a b p : Nat} : (ptsN a b p).map pt = (List.range p).flatMap fun x => (rt p (sideN a b p x)).map fun y => pt (x, y) := by
  unfold ptsN
  rw [List.map_flatMap]
  congr 1
  funext x
  rw [List.map_map]; rfl
theorem E_points (a b p : Nat) (hp : p ∈ PR) : m_curve_points [cv a b p] = some (.tup ((ptsN a b p).map pt)) := by
  have hb := PR_b hp
  refine run_q rfl ?_
  unfold b_curve_points
  refine q_nx (Γ1 := [.val (cv a b p), .val (.int a), .val (.int b), .val (.int p), .emp, .emp]) rfl (q_ret (ev1 (d := .lst ((ptsN a b p).map pt)) ?_ rfl))
  rw [pts_D]
  refine mLc2_of (rng_len (n := p) rfl (by omega)) (lc2_flat (fun x : Nat => D.int x) _ _ fun x hx => ?_) (by rw [← pts_D, List.length_map]; have := pts_len (a := a) (b := b) hp; unfold LIM; omega)
  have hx := List.mem_range.mp hx
  refine ⟨[.val (cv a b p), .val (.int a), .val (.int b), .val (.int p), .val (.int x), .emp], _, rfl, rfl, rng_len (n := p) rfl (by omega), ?_⟩
  rw [← rt_ok hp (side_lt (by omega))]
  refine lcL_filter (fun y : Nat => D.int y) _ (fun y => pt (x, y)) _ fun y hy => ?_
  have hy := List.mem_range.mp hy
  refine ⟨[.val (cv a b p), .val (.int a), .val (.int b), .val (.int p), .val (.int x), .val (.int y)], rfl, ?_, fun _ => rfl⟩
  rw [← cond_eq]
  refine eqI0 (mod_of (subI (subI (subI (mulN rfl rfl (by omega)) (mulN (mulN rfl rfl (by omega)) rfl (by omega))) (mulN rfl rfl (by omega))) rfl) rfl (by omega))

/-! ### sums of points -/
def encO : Option (Nat × Nat) → D
  | none => .non
  | some q => pt q
def inO (p : Nat) : Option (Nat × Nat) → Prop
  | none => True
  | some q => q.1 < p ∧ q.2 < p
theorem q_out {c : MT} {m : ME} {rest : MS} {Γ : En} {d : D} (h : c Γ = some true) (h2 : m Γ = some d) : (sSq (sIf c (sRt m) sNx) rest Γ).map Prod.fst = some (.rt d) := by
  rw [sSq_rt (Γ1 := Γ) (d := d) ((sIf_t h).trans (sRt_of h2))]; rfl
theorem E_turned_in (z : Int) (p r : Nat) (hp : 2 ≤ p) (hb : p ≤ 1000) (hr : z % (p : Int) = r) : m_turned_in [.int z, .int p] = some (.int (invP r p)) := by
  refine run_q rfl ?_
  unfold b_turned_in
  refine q_ret (ev3 (d := .int z) (d2 := .int (p - 2 : Nat)) (d3 := .int p) rfl ?_ rfl ?_)
  · show some (D.int ((p : Int) - 2)) = some (D.int ((p - 2 : Nat) : Int))
    rw [Int.ofNat_sub hp]; rfl
  · show (if decide ((0 : Int) < (p : Int)) && (decide ((p : Int) < 4611686018427387904) && (decide ((0 : Int) ≤ ((p - 2 : Nat) : Int)) && decide (((p - 2 : Nat) : Int) < 4611686018427387904))) then some (D.int (((z % (p : Int)).toNat ^ (p - 2) % p : Nat) : Int)) else none) = _
    rw [decide_eq_true (by omega), decide_eq_true (by omega), decide_eq_true (by omega), decide_eq_true (by omega), hr]
    rfl
theorem sub_mod (z x p : Nat) (hx : x ≤ p) : ((z : Int) - (x : Int)) % (p : Int) = ((z + p - x) % p : Nat) := by
  rw [Int.natCast_emod, show ((z + p - x : Nat) : Int) = ((z : Int) - (x : Int)) + (p : Int) * 1 by omega, Int.add_mul_emod_self_left]
theorem rise2 (w y p I : Nat) (hy : y ≤ p) : (((w : Int) - (y : Int)) * (I : Int)) % (p : Int) = ((w + p - y) * I % p : Nat) := by
  rw [Int.natCast_emod, Int.natCast_mul, show ((w + p - y : Nat) : Int) = ((w : Int) - (y : Int)) + (p : Int) by omega, Int.add_mul, Int.add_mul_emod_self_left]
theorem uu (r x z p : Nat) (hx : x ≤ p) (hz : z ≤ p) : (((r * r : Nat) : Int) - (x : Int) - (z : Int)) % (p : Int) = ((r * r + 2 * p - x - z) % p : Nat) := by
  rw [Int.natCast_emod, show ((r * r + 2 * p - x - z : Nat) : Int) = (((r * r : Nat) : Int) - (x : Int) - (z : Int)) + (p : Int) * 2 by omega, Int.add_mul_emod_self_left]
theorem vv (r x u y p : Nat) (hu : u ≤ p) (hy : y ≤ p) : ((r : Int) * ((x : Int) - (u : Int)) - (y : Int)) % (p : Int) = ((r * (x + p - u) + p - y) % p : Nat) := by
  have e : ((r * (x + p - u) + p - y : Nat) : Int) = ((r : Int) * ((x : Int) - (u : Int)) - (y : Int)) + (p : Int) * ((r : Int) + 1) := by
    have e1 : ((r * (x + p - u) : Nat) : Int) = (r : Int) * ((x : Int) - (u : Int)) + (p : Int) * (r : Int) := by
      rw [Int.natCast_mul, show ((x + p - u : Nat) : Int) = ((x : Int) - (u : Int)) + (p : Int) by omega, Int.mul_add, Int.mul_comm (r : Int) (p : Int)]
    rw [Int.mul_add, Int.mul_one]
    omega
  rw [Int.natCast_emod, e, Int.add_mul_emod_self_left]
theorem pt_eq (x y z w : Nat) : dEq (pt (x, y)) (pt (z, w)) = some (.bl (decide (x = z ∧ y = w))) := by
  show some (D.bl (D.eqb (.int x) (.int z) && (D.eqb (.int y) (.int w) && true))) = _
  rw [SK.eq_int, SK.eq_int, Bool.and_true, ← Bool.decide_and]
theorem mtAnd_of {c d : MT} {Γ : En} {s t : Bool} (h1 : c Γ = some s) (h2 : d Γ = some t) : mtAnd c d Γ = some (s && t) := by
  unfold mtAnd
  rw [h1, Option.bind_some, h2]
  cases s <;> rfl
theorem E_sum (a b p : Nat) (P Q : Option (Nat × Nat)) (hp2 : 2 ≤ p) (hpb : p ≤ 1000) (ha : a ≤ 1000) (hP : inO p P) (hQ : inO p Q) : m_sum_of_points [cv a b p, encO P, encO Q] = some (encO (addN a p P Q)) ∧ inO p (addN a p P Q) := by
  cases P with
  | none =>
    refine ⟨?_, hQ⟩
    refine run_q rfl ?_
    unfold b_sum_of_points
    refine q_nx (Γ1 := [.val (cv a b p), .val .non, .val (encO Q), .val (.int a), .val (.int b), .val (.int p), .emp, .emp, .emp, .emp, .emp, .emp]) rfl (q_out rfl rfl)
  | some P =>
    obtain ⟨x, y⟩ := P
    obtain ⟨hx, hy⟩ := hP
    have hx : x < p := hx
    have hy : y < p := hy
    cases Q with
    | none =>
      refine ⟨?_, ⟨hx, hy⟩⟩
      refine run_q rfl ?_
      unfold b_sum_of_points
      refine q_nx (Γ1 := [.val (cv a b p), .val (pt (x, y)), .val .non, .val (.int a), .val (.int b), .val (.int p), .emp, .emp, .emp, .emp, .emp, .emp]) rfl (q_skip rfl (q_out rfl rfl))
    | some Q =>
      obtain ⟨z, w⟩ := Q
      obtain ⟨hz, hw⟩ := hQ
      have hz : z < p := hz
      have hw : w < p := hw
      have c0 : (mtAnd (mTB (mBin dEq (mVarB 6) (mVarB 8))) (mTB (mBin dEq (mBin dMod (mBin dAdd (mVarB 7) (mVarB 9)) (mVarB 5)) (mC (.int 0))))) [.val (cv a b p), .val (pt (x, y)), .val (pt (z, w)), .val (.int a), .val (.int b), .val (.int p), .val (.int x), .val (.int y), .val (.int z), .val (.int w), .emp, .emp] = some (decide (x = z ∧ (y + w) % p = 0)) := by
        rw [mtAnd_of (eqN rfl rfl) (eqN (x := (y + w) % p) (y := 0) (modN (addN' rfl rfl) rfl (by omega)) rfl), ← Bool.decide_and]
      by_cases hc : x = z ∧ (y + w) % p = 0
      · have ad : addN a p (some (x, y)) (some (z, w)) = none := by
          show (if x = z ∧ (y + w) % p = 0 then none else _) = _
          rw [if_pos hc]
        rw [ad]
        refine ⟨?_, trivial⟩
        refine run_q rfl ?_
        unfold b_sum_of_points
        refine q_nx (Γ1 := [.val (cv a b p), .val (pt (x, y)), .val (pt (z, w)), .val (.int a), .val (.int b), .val (.int p), .emp, .emp, .emp, .emp, .emp, .emp]) rfl (q_skip rfl (q_skip rfl ?_))
        refine q_nx (Γ1 := [.val (cv a b p), .val (pt (x, y)), .val (pt (z, w)), .val (.int a), .val (.int b), .val (.int p), .val (.int x), .val (.int y), .val (.int z), .val (.int w), .emp, .emp]) rfl ?_
        exact q_out (c0.trans (by rw [decide_eq_true hc])) rfl
      · generalize hr : (if x = z ∧ y = w then (3 * x * x + a) * invP (2 * y % p) p % p else (w + p - y) * invP ((z + p - x) % p) p % p) = r
        generalize hu : (r * r + 2 * p - x - z) % p = u
        have ad : addN a p (some (x, y)) (some (z, w)) = some (u, (r * (x + p - u) + p - y) % p) := by
          show (if x = z ∧ (y + w) % p = 0 then none else _) = _
          rw [if_neg hc]
          simp only [hr, hu]
        have up : u < p := by rw [← hu]; exact Nat.mod_lt _ (by omega)
        have rp : r < p := by rw [← hr]; split <;> exact Nat.mod_lt _ (by omega)
        rw [ad]
        refine ⟨?_, up, Nat.mod_lt _ (by omega)⟩
        have ib : ∀ k, invP k p < 1000 := fun k => by have : invP k p < p := Nat.mod_lt _ (by omega)
                                                      omega
        refine run_q rfl ?_
        unfold b_sum_of_points
        refine q_nx (Γ1 := [.val (cv a b p), .val (pt (x, y)), .val (pt (z, w)), .val (.int a), .val (.int b), .val (.int p), .emp, .emp, .emp, .emp, .emp, .emp]) rfl (q_skip rfl (q_skip rfl ?_))
        refine q_nx (Γ1 := [.val (cv a b p), .val (pt (x, y)), .val (pt (z, w)), .val (.int a), .val (.int b), .val (.int p), .val (.int x), .val (.int y), .val (.int z), .val (.int w), .emp, .emp]) rfl ?_
        refine q_skip (c0.trans (by rw [decide_eq_false hc])) ?_
        have c1 : mTB (mBin dEq (mVarB 1) (mVarB 2)) [.val (cv a b p), .val (pt (x, y)), .val (pt (z, w)), .val (.int a), .val (.int b), .val (.int p), .val (.int x), .val (.int y), .val (.int z), .val (.int w), .emp, .emp] = some (decide (x = z ∧ y = w)) := mTB_of ((mBin_of rfl rfl).trans (pt_eq x y z w))
        refine q_nx (Γ1 := [.val (cv a b p), .val (pt (x, y)), .val (pt (z, w)), .val (.int a), .val (.int b), .val (.int p), .val (.int x), .val (.int y), .val (.int z), .val (.int w), .val (.int r), .emp]) ?_ ?_
        · by_cases hd : x = z ∧ y = w
          · rw [sIf_t (c1.trans (by rw [decide_eq_true hd]))]
            rw [if_pos hd] at hr
            rw [← hr]
            refine sSet_v (modN (mulN (y := invP (2 * y % p) p) (addN' (mulN (mulNl (x := 3) rfl rfl (by omega)) rfl (by omega)) rfl) (ev2 (d := .int (2 * y : Nat)) (mulNl (x := 2) rfl rfl (by omega)) rfl ?_) (by have := ib (2 * y % p); omega)) rfl (by omega))
            exact E_turned_in _ p _ hp2 hpb (Int.natCast_emod (2 * y) p).symm
          · rw [sIf_f (c1.trans (by rw [decide_eq_false hd]))]
            rw [if_neg hd] at hr
            rw [← hr, ← rise2 _ _ _ _ (by omega)]
            refine sSet_v (mod_of ((mBin_of (x := .int ((w : Int) - (y : Int))) (y := .int (invP ((z + p - x) % p) p)) rfl (ev2 (d := .int ((z : Int) - (x : Int))) rfl rfl (E_turned_in _ p _ hp2 hpb (sub_mod z x p (by omega))))).trans (mulI_ok (okMul_r (by have := ib ((z + p - x) % p); omega)))) rfl (by omega))
        · refine q_set (d := .int u) ?_ (q_ret ?_)
          · rw [← hu, ← uu _ _ _ _ (by omega) (by omega)]
            exact mod_of (subI (subI (mulN rfl rfl (by omega)) rfl) rfl) rfl (by omega)
          · show (mCons _ _ _).bind _ = _
            rw [mCons_of (x := .int u) rfl (mCons_of (x := .int ((r * (x + p - u) + p - y) % p : Nat)) ?_ rfl)]
            · rfl
            · rw [← vv _ _ _ _ _ (by omega) (by omega)]
              exact mod_of (subI ((mBin_of (x := .int r) (y := .int ((x : Int) - (u : Int))) rfl rfl).trans (mulI_ok (okMul_l (by omega)))) rfl) rfl (by omega)
end K76

set_option Elab.async false
set_option linter.all false
set_option maxRecDepth 100000
set_option maxHeartbeats 4000000
set_option autoImplicit false
namespace K76
open PySem PySem.Spec PyProof.Rows L2 SK
/-! ### facts by computation -/
def lone (I : List (Nat × Nat)) : List (Nat × Nat) := I.filter fun q => q.2 == 0
def dueO (l : List (Nat × Nat)) : Option (Nat × Nat) := if l.length = 1 then l[0]? else none
def lexN (p q : Nat × Nat) : Bool := Nat.blt p.2 q.2 || (Nat.beq p.2 q.2 && Nat.ble p.1 q.1)
def insN (x : Nat × Nat) : List (Nat × Nat) → List (Nat × Nat)
  | [] => [x]
  | y :: l => if lexN x y then x :: y :: l else y :: insN x l
def srtN : List (Nat × Nat) → List (Nat × Nat)
  | [] => []
  | x :: l => insN x (srtN l)
def sing (a b p : Nat) : Bool := (4 * a * a * a + 27 * b * b) % p == 0
def forceN {α : Type} (x : Nat) (k : Nat → α) : α := match x with
  | 0 => k 0
  | n + 1 => k (n + 1)
def forceO {α : Type} : Option (Nat × Nat) → (Option (Nat × Nat) → α) → α
  | none, k => k none
  | some (x, y), k => forceN x fun x => forceN y fun y => k (some (x, y))
def addedF (a p : Nat) : List (Nat × Nat) → Option (Nat × Nat) → Option (Nat × Nat)
  | [], h => h
  | q :: l, h => forceO (addN a p h (some q)) fun h => addedF a p l h
def added (a p : Nat) (I : List (Nat × Nat)) : Option (Nat × Nat) := I.foldl (fun h q => addN a p h (some q)) none
theorem force_eq {α : Type} (h : Option (Nat × Nat)) (k : Option (Nat × Nat) → α) : forceO h k = k h := by
  cases h with
  | none => rfl
  | some q =>
    obtain ⟨x, y⟩ := q
    cases x <;> cases y <;> rfl
theorem addedF_eq (a p : Nat) : ∀ (I : List (Nat × Nat)) (h : Option (Nat × Nat)), addedF a p I h = I.foldl (fun h q => addN a p h (some q)) h
  | [], _ => rfl
  | q :: I, h => by
    show forceO _ _ = _
    rw [force_eq, addedF_eq a p I]; rfl
def chkG (a p : Nat) (I : List (Nat × Nat)) : Bool := decide (addedF a p (srtN I) none = dueO (lone I)) && (decide (addedF a p (srtN I).reverse none = dueO (lone I)) && decide (decide (I.length % 2 = 1) = decide (0 < (lone I).length)))
theorem g_all : PR.all (fun p => (List.range p).all fun a => (List.range p).all fun b => sing a b p || chkG a p (ptsN a b p)) = true := by decide +kernel
theorem z_all : PR.all (fun p => (List.range p).all fun b => (decide (p % 3 ≠ 2) || decide (SN 0 b p = 0)) && (decide (p % 4 ≠ 3) || decide (SN b 0 p = 0))) = true := by decide +kernel
def nonsq (p c : Nat) : Bool := decide (0 < c) && (rt p c).isEmpty
theorem c_all : PR.all (fun p => (List.range p).all fun c => !nonsq p c || (((List.range p).map fun x => c * x % p).isPerm (List.range p) && (List.range p).all fun s => decide ((rt p (c * c * c * s % p)).length + (rt p s).length = 2) && decide ((c * c * c * (c * c * c) * s) % p = 0 ↔ s = 0))) = true := by decide +kernel
theorem g_ok {a b p : Nat} (hp : p ∈ PR) (ha : a < p) (hb : b < p) (hs : sing a b p = false) : added a p (srtN (ptsN a b p)) = dueO (lone (ptsN a b p)) ∧ added a p (srtN (ptsN a b p)).reverse = dueO (lone (ptsN a b p)) ∧ (decide ((ptsN a b p).length % 2 = 1) = decide (0 < (lone (ptsN a b p)).length)) := by
  have := List.all_eq_true.mp (List.all_eq_true.mp (List.all_eq_true.mp g_all p hp) a (List.mem_range.mpr ha)) b (List.mem_range.mpr hb)
  rw [hs, Bool.false_or] at this
  unfold chkG at this
  simp only [Bool.and_eq_true, decide_eq_true_eq, addedF_eq] at this
  exact this
theorem z_ok {b p : Nat} (hp : p ∈ PR) (hb : b < p) : (p % 3 = 2 → SN 0 b p = 0) ∧ (p % 4 = 3 → SN b 0 p = 0) := by
  have := List.all_eq_true.mp (List.all_eq_true.mp z_all p hp) b (List.mem_range.mpr hb)
  simp only [Bool.and_eq_true, Bool.or_eq_true, decide_eq_true_eq] at this
  exact ⟨fun h => this.1.resolve_left (fun c => c h), fun h => this.2.resolve_left (fun c => c h)⟩
theorem c_ok {p c : Nat} (hp : p ∈ PR) (hc : c < p) (hn : nonsq p c = true) : ((List.range p).map fun x => c * x % p).Perm (List.range p) ∧ (∀ s, s < p → (rt p (c * c * c * s % p)).length + (rt p s).length = 2 ∧ ((c * c * c * (c * c * c) * s) % p = 0 ↔ s = 0)) := by
  have := List.all_eq_true.mp (List.all_eq_true.mp c_all p hp) c (List.mem_range.mpr hc)
  rw [hn] at this
  simp only [Bool.not_true, Bool.false_or, Bool.and_eq_true, List.all_eq_true, decide_eq_true_eq] at this
  exact ⟨List.isPerm_iff.mp this.1, fun s hs => this.2 s (List.mem_range.mpr hs)⟩
end K76

set_option Elab.async false
set_option linter.all false
set_option maxRecDepth 100000
set_option maxHeartbeats 4000000
set_option autoImplicit false
namespace K76
open PySem PySem.Spec PyProof.Rows L2 SK
/-! ### the turned curve -/
theorem fold_sum {α : Type} (f : α → Int) : ∀ (xs : List α) (s : Int), xs.foldl (fun s x => s + f x) s = s + (xs.map f).sum
  | [], s => by simp
  | x :: xs, s => by
    rw [List.foldl_cons, fold_sum f xs, List.map_cons, List.sum_cons]; omega
def F (a b p x : Nat) : Int := ((rt p (sideN a b p x)).length : Int) - 1
theorem SN_sum (a b p : Nat) : SN a b p = ((List.range p).map (F a b p)).sum := by
  show (List.range p).foldl (fun s x => s + F a b p x) 0 = _
  rw [fold_sum, Int.zero_add]
theorem sum_perm {xs ys : List Int} (h : xs.Perm ys) : xs.sum = ys.sum := by
  induction h with
  | nil => rfl
  | cons x _ ih => rw [List.sum_cons, List.sum_cons, ih]
  | swap x y l => rw [List.sum_cons, List.sum_cons, List.sum_cons, List.sum_cons]; omega
  | trans _ _ h1 h2 => exact h1.trans h2
theorem sum_neg : ∀ (xs : List Nat) (f g : Nat → Int), (∀ x ∈ xs, f x = - g x) → (xs.map f).sum = - (xs.map g).sum
  | [], f, g, _ => by simp
  | x :: xs, f, g, h => by
    rw [List.map_cons, List.map_cons, List.sum_cons, List.sum_cons, h x List.mem_cons_self, sum_neg xs f g fun y hy => h y (List.mem_cons_of_mem _ hy)]; omega
theorem side_turn (a b p c x : Nat) : sideN (a * c * c % p) (b * c * c * c % p) p (c * x % p) = c * c * c * sideN a b p x % p := by
  unfold sideN
  have e : c * x * (c * x) * (c * x) + a * c * c * (c * x) + b * c * c * c = c * c * c * (x * x * x + a * x + b) := by
    simp only [Nat.mul_add, Nat.mul_assoc, Nat.mul_comm, Nat.mul_left_comm]
  rw [Nat.mul_mod_mod, ← e]
  simp only [Nat.add_mod, Nat.mul_mod, Nat.mod_mod]
theorem sing_turn (a b p c : Nat) : (4 * (a * c * c % p) * (a * c * c % p) * (a * c * c % p) + 27 * (b * c * c * c % p) * (b * c * c * c % p)) % p = c * c * c * (c * c * c) * ((4 * a * a * a + 27 * b * b) % p) % p := by
  have e : 4 * (a * c * c) * (a * c * c) * (a * c * c) + 27 * (b * c * c * c) * (b * c * c * c) = c * c * c * (c * c * c) * (4 * a * a * a + 27 * b * b) := by
    simp only [Nat.mul_add, Nat.mul_assoc, Nat.mul_comm, Nat.mul_left_comm]
  rw [Nat.mul_mod_mod, ← e]
  simp only [Nat.add_mod, Nat.mul_mod, Nat.mod_mod]
theorem SN_turn {a b p c : Nat} (hp : p ∈ PR) (hc : c < p) (hn : nonsq p c = true) : SN (a * c * c % p) (b * c * c * c % p) p = - SN a b p := by
  have hb := PR_b hp
  obtain ⟨pm, hs⟩ := c_ok hp hc hn
  rw [SN_sum, SN_sum, ← sum_perm (pm.map (F (a * c * c % p) (b * c * c * c % p) p)), List.map_map]
  refine sum_neg _ _ _ fun x _ => ?_
  show F _ _ p (c * x % p) = _
  unfold F
  rw [side_turn]
  have := (hs (sideN a b p x) (side_lt (by omega))).1
  omega
theorem sing_ok {a b p c : Nat} (hp : p ∈ PR) (hc : c < p) (hn : nonsq p c = true) (h : sing a b p = false) : sing (a * c * c % p) (b * c * c * c % p) p = false := by
  have hb := PR_b hp
  obtain ⟨_, hs⟩ := c_ok hp hc hn
  unfold sing at h ⊢
  rw [beq_eq_false_iff_ne] at h ⊢
  rw [sing_turn]
  intro hz
  exact h ((hs _ (Nat.mod_lt _ (by omega))).2.mp hz)
theorem flat_sum (a b p : Nat) : ∀ xs : List Nat, (((xs.flatMap fun x => (rt p (sideN a b p x)).map fun y => (x, y)).length : Nat) : Int) = xs.length + (xs.map (F a b p)).sum
  | [] => by simp
  | x :: xs => by
    rw [List.flatMap_cons, List.length_append, List.length_map, List.map_cons, List.sum_cons, List.length_cons]
    have := flat_sum a b p xs
    unfold F at this ⊢
    omega
theorem pts_count (a b p : Nat) : ((ptsN a b p).length : Int) = p + SN a b p := by
  rw [SN_sum]
  have := flat_sum a b p (List.range p)
  rw [List.length_range] at this
  exact this
/-! ### sums over a row of points -/
theorem E_added (a b p : Nat) (I : List (Nat × Nat)) (hp2 : 2 ≤ p) (hpb : p ≤ 1000) (ha : a ≤ 1000) (h : ∀ q ∈ I, q.1 < p ∧ q.2 < p) : m__law_all_added [cv a b p, .lst (I.map pt)] = some (encO (added a p I)) := by
  refine run_q rfl ?_
  unfold b__law_all_added
  refine q_set (Γ := [.val (cv a b p), .val (.lst (I.map pt)), .emp, .emp]) rfl ?_
  refine q_for pt (fun h q => addN a p h (some q)) (fun h Γ => inO p h ∧ ∃ s3, Γ = [.val (cv a b p), .val (.lst (I.map pt)), .val (encO h), s3]) I none rfl ⟨trivial, _, rfl⟩ ?_ ?_
  · intro s q hq Γ ⟨hs, s3, e⟩
    subst e
    obtain ⟨e1, e2⟩ := E_sum a b p s (some q) hp2 hpb ha hs (h q hq)
    exact ⟨_, sSet_v (Γ := [.val (cv a b p), .val (.lst (I.map pt)), .val (encO s), .val (pt q)]) (ev3 rfl rfl rfl e1), e2, _, rfl⟩
  · intro Γ ⟨_, s3, e⟩
    subst e
    exact q_ret rfl
theorem wh_t {c : MT} {b : MS} {N : Nat} {Γ Γ1 : En} (h : c Γ = some true) (h2 : b Γ = some (.nx, Γ1)) : mWh c b (N + 1) Γ = mWh c b N Γ1 := by
  show (c Γ).bind _ = _
  rw [h]
  show (match b Γ with | some (.nx, Γ1) => mWh c b N Γ1 | some (.ct, Γ1) => mWh c b N Γ1 | some (.bk, Γ1) => some (.nx, Γ1) | r => r) = _
  rw [h2]
theorem wh_f {c : MT} {b : MS} {N : Nat} {Γ : En} (h : c Γ = some false) : mWh c b (N + 1) Γ = some (.nx, Γ) := by
  show (c Γ).bind _ = _
  rw [h]; rfl
theorem E_round (a b p x : Nat) (hp2 : 2 ≤ p) (hpb : p ≤ 1000) (ha : a ≤ 1000) (hx : x < p) : m_point_round [cv a b p, pt (x, 0)] = some (.int 2) := by
  have e := (E_sum a b p (some (x, 0)) (some (x, 0)) hp2 hpb ha ⟨hx, by show 0 < p; omega⟩ ⟨hx, by show 0 < p; omega⟩).1
  have e0 : addN a p (some (x, 0)) (some (x, 0)) = none := if_pos ⟨rfl, Nat.zero_mod p⟩
  rw [e0] at e
  refine run_q rfl ?_
  unfold b_point_round
  refine q_par (Γ := [.val (cv a b p), .val (pt (x, 0)), .emp, .emp]) (d := pt (x, 0)) (e := .int 1) rfl rfl (q_nx (Γ1 := [.val (cv a b p), .val (pt (x, 0)), .val .non, .val (.int 2)]) ((wh_t (N := 1999) (Γ1 := [.val (cv a b p), .val (pt (x, 0)), .val .non, .val (.int 2)]) rfl ?_).trans (wh_f (N := 1998) rfl)) (q_ret rfl))
  unfold sPar xV
  rw [ev3 (d := cv a b p) (d2 := pt (x, 0)) (d3 := pt (x, 0)) rfl rfl rfl e]
  rfl
/-! the sorted row -/
theorem lexN_le (p q : Nat × Nat) : lexN p q = true ↔ (p.2 < q.2 ∨ (p.2 = q.2 ∧ p.1 ≤ q.1)) := by
  unfold lexN
  simp [Nat.blt_eq, Nat.beq_eq, Nat.ble_eq]
theorem ins_perm (x : Nat × Nat) : ∀ l, (insN x l).Perm (x :: l)
  | [] => .refl _
  | y :: l => by
    show (if lexN x y then x :: y :: l else y :: insN x l).Perm _
    split
    · exact .refl _
    · exact ((ins_perm x l).cons y).trans (.swap x y l)
theorem srtN_perm : ∀ l, (srtN l).Perm l
  | [] => .refl _
  | x :: l => (ins_perm x _).trans ((srtN_perm l).cons x)
def leS (p q : Nat × Nat) : Prop := p.2 < q.2 ∨ (p.2 = q.2 ∧ p.1 ≤ q.1)
theorem ins_sorted (x : Nat × Nat) : ∀ l, l.Pairwise leS → (insN x l).Pairwise leS
  | [], _ => List.pairwise_singleton _ _
  | y :: l, h => by
    show (if lexN x y then x :: y :: l else y :: insN x l).Pairwise _
    obtain ⟨h1, h2⟩ := List.pairwise_cons.mp h
    by_cases c : lexN x y = true
    · rw [if_pos c]
      have c' := (lexN_le x y).mp c
      refine List.pairwise_cons.mpr ⟨fun z hz => ?_, h⟩
      rcases List.mem_cons.mp hz with rfl | hz
      · exact c'
      · have := h1 z hz
        unfold leS at this ⊢
        omega
    · rw [if_neg c]
      have c' := fun h => c ((lexN_le x y).mpr h)
      refine List.pairwise_cons.mpr ⟨fun z hz => ?_, ins_sorted x l h2⟩
      rcases List.mem_cons.mp ((ins_perm x l).mem_iff.mp hz) with rfl | hz
      · unfold leS
        by_cases h3 : y.2 < z.2
        · exact .inl h3
        · refine .inr ⟨?_, ?_⟩
          · by_cases h4 : z.2 < y.2
            · exact absurd (.inl h4) c'
            · omega
          · by_cases h5 : y.1 ≤ z.1
            · exact h5
            · exact absurd (show z.2 < y.2 ∨ (z.2 = y.2 ∧ z.1 ≤ y.1) by omega) c'
      · exact h1 z hz
theorem srtN_sorted : ∀ l, (srtN l).Pairwise leS
  | [] => .nil
  | x :: l => ins_sorted x _ (srtN_sorted l)

def sw (q : Nat × Nat) : Int × Int := ((q.2 : Int), (q.1 : Int))
theorem leP_sw {p q : Nat × Nat} (h : leS p q) : leP (sw p) (sw q) := by
  refine Bool.eq_false_iff.mpr fun c => ?_
  have c : ((q.2 : Int) < (p.2 : Int)) ∨ ((q.2 : Int) = (p.2 : Int) ∧ (q.1 : Int) < (p.1 : Int)) := SrtO.lexB_iff.mp c
  unfold leS at h
  omega
theorem E_sorted (I : List (Nat × Nat)) : dSorted [.lst (I.map fun q => SK.pairD (sw q))] = some (.lst ((srtN I).map fun q => SK.pairD (sw q))) := by
  cases I with
  | nil => rfl
  | cons q I =>
    have h : intsOf ((q :: I).map fun q => SK.pairD (sw q)) = none := rfl
    unfold dSorted
    simp only [h]
    rw [show ((q :: I).map fun q => SK.pairD (sw q)) = ((q :: I).map sw).map SK.pairD by rw [List.map_map]; rfl, pairsOf_map]
    show some (D.lst ((sortP ((q :: I).map sw)).map SK.pairD)) = _
    rw [← sortP_eq (xs := (q :: I).map sw) (ys := (srtN (q :: I)).map sw) ((srtN_perm _).map sw) ?_]
    · rw [List.map_map]; rfl
    · rw [List.pairwise_map]
      exact (srtN_sorted (q :: I)).imp leP_sw
/-! ### the law of one curve -/
theorem pts_in {a b p : Nat} (hp : p ∈ PR) : ∀ q ∈ ptsN a b p, q.1 < p ∧ q.2 < p := fun q hq => by
  have hb := PR_b hp
  obtain ⟨x, hx, h⟩ := List.mem_flatMap.mp hq
  obtain ⟨y, hy, rfl⟩ := List.mem_map.mp h
  rw [← rt_ok hp (side_lt (by omega))] at hy
  exact ⟨List.mem_range.mp hx, List.mem_range.mp (List.mem_filter.mp hy).1⟩
theorem ok_pt (n : Nat) (q : Nat × Nat) : D.okL (n + 1) (pt q) = true := okL_tup (show 2 ≤ 1000000 by decide) fun x hx => by
  rcases List.mem_cons.mp hx with rfl | hx
  · exact okL_int _ _
  · rw [List.mem_singleton.mp hx]; exact okL_int _ _
theorem ok_pts (n : Nat) (I : List (Nat × Nat)) (h : I.length ≤ 1000) : D.okL (n + 2) (.tup (I.map pt)) = true := okL_tup (by rw [List.length_map]; omega) fun x hx => by
  obtain ⟨q, _, rfl⟩ := List.mem_map.mp hx; exact ok_pt n q
theorem ok_encO (h : Option (Nat × Nat)) : D.okL 9 (encO h) = true := by
  cases h with
  | none => rfl
  | some q => exact ok_pt 8 q
theorem beq_dec (s : Nat) : ((s : Nat) == 0) = decide (s = 0) := by
  by_cases h : s = 0
  · rw [h]; rfl
  · rw [decide_eq_false h, beq_eq_false_iff_ne.mpr h]
/-- one turn of the last loop -/
theorem turn_ok (s0 s1 s2 s3 s4 s5 s6 s7 s8 s9 s10 s11 s14 s15 s16 s17 s18 : Slot) (a b p : Nat) (hp : p ∈ PR) (ha : a < p) (hb : b < p) (hg : sing a b p = false) :
    ∃ t7 t14 t15, (sSq (sPar 14 7 (xV (mLc (mItems (mVar 13)) (gN 17) (mTB (mBin dEq (mBin dIx (mVarB 17) (mC (.int 1))) (mC (.int 0)))) (mVar 17) [17])) (xV (mC .non))) (sSq (sIf (mTB (mBin dEq (mCall dLen (mCons (mVarB 14) mNil)) (mC (.int 1)))) (sSet 7 (xV (mBin dIx (mVarB 14) (mC (.int 0))))) sNx) (sSq (sSetF 15 (mLc (mItems (mCall dSorted (mCons (mLc (mItems (mVar 13)) (gT (gsC (gN 8) (gsC (gN 16) gsN))) mYes (mTup (mCons (mVar 16) (mCons (mVar 8) mNil))) [8, 16]) mNil))) (gT (gsC (gN 16) (gsC (gN 8) gsN))) mYes (mTup (mCons (mVar 8) (mCons (mVar 16) mNil))) [16, 8])) (sSq (sFrz 7 (sIf (mtOr (mtNot (mTru (mCall (m__law_like 10) (mCons (mCall m__law_all_added (mCons (mVar 12) (mCons (mVar 15) mNil))) (mCons (mVar 7) mNil))))) (mtNot (mTru (mCall (m__law_like 10) (mCons (mCall m__law_all_added (mCons (mVar 12) (mCons (mUn dRev (mVarB 15)) mNil))) (mCons (mVar 7) mNil)))))) (sRt (mC (.bl false))) sNx)) (sSq (sIf (mTB (mBin dNe (mBin dEq (mBin dMod (mCall dInt1 (mCons (mCall dLen (mCons (mVarB 13) mNil)) mNil)) (mC (.int 2))) (mC (.int 1))) (mBin dGt (mCall dLen (mCons (mVarB 14) mNil)) (mC (.int 0))))) (sRt (mC (.bl false))) sNx) (sIf (mtNot (mTru (mCall dAll (mCons (mLc (mItems (mVar 14)) (gN 17) mYes (mCall (m__law_like 10) (mCons (mCall m_point_round (mCons (mVar 12) (mCons (mVar 17) mNil))) (mCons (mC (.int 2)) mNil))) [17]) mNil)))) (sRt (mC (.bl false))) sNx))))))
      [s0, s1, s2, s3, s4, s5, s6, s7, s8, s9, s10, s11, .val (cv a b p), .val (.tup ((ptsN a b p).map pt)), s14, s15, s16, s17, s18] = some (.nx, [s0, s1, s2, s3, s4, s5, s6, t7, s8, s9, s10, s11, .val (cv a b p), .val (.tup ((ptsN a b p).map pt)), t14, t15, s16, s17, s18]) := by
  have pb := PR_b hp
  obtain ⟨g1, g2, g3⟩ := g_ok hp ha hb hg
  have pin := pts_in (a := a) (b := b) hp
  have pl := pts_len (a := a) (b := b) hp
  generalize ptsN a b p = I at *
  have al := E_added a b p (srtN I) (by omega) (by omega) (by omega) (fun q hq => pin q ((srtN_perm I).mem_iff.mp hq))
  have ar := E_added a b p (srtN I).reverse (by omega) (by omega) (by omega) (fun q hq => pin q ((srtN_perm I).mem_iff.mp (List.mem_reverse.mp hq)))
  rw [g1] at al
  rw [g2] at ar
  have ll : (lone I).length ≤ I.length := List.length_filter_le _ _
  refine ⟨.val (encO (dueO (lone I))), .val (.lst ((lone I).map pt)), .val (.lst ((srtN I).map pt)), ?_⟩
  refine (sSq_nx (Γ1 := [s0, s1, s2, s3, s4, s5, s6, .val .non, s8, s9, s10, s11, .val (cv a b p), .val (.tup (I.map pt)), .val (.lst ((lone I).map pt)), s15, s16, s17, s18]) ?_).trans ?_
  · unfold sPar xV
    rw [mLc_of (xs := I.map pt) (ys := (lone I).map pt) rfl ?_ (by rw [List.length_map]; unfold LIM; omega)]
    · rfl
    · refine lcL_filter pt (fun q => q.2 == 0) pt I fun q _ => ⟨[s0, s1, s2, s3, s4, s5, s6, s7, s8, s9, s10, s11, .val (cv a b p), .val (.tup (I.map pt)), s14, s15, s16, .val (pt q), s18], rfl, ?_, fun _ => rfl⟩
      rw [beq_dec]
      exact eqN (x := q.2) (y := 0) rfl rfl
  refine (sSq_nx (Γ1 := [s0, s1, s2, s3, s4, s5, s6, .val (encO (dueO (lone I))), s8, s9, s10, s11, .val (cv a b p), .val (.tup (I.map pt)), .val (.lst ((lone I).map pt)), s15, s16, s17, s18]) ?_).trans ?_
  · have c : (mTB (mBin dEq (mCall dLen (mCons (mVarB 14) mNil)) (mC (.int 1)))) [s0, s1, s2, s3, s4, s5, s6, .val .non, s8, s9, s10, s11, .val (cv a b p), .val (.tup (I.map pt)), .val (.lst ((lone I).map pt)), s15, s16, s17, s18] = some (decide ((lone I).length = 1)) := eqN (x := (lone I).length) (y := 1) (by
      show some (D.int (((lone I).map pt).length : Int)) = _
      rw [List.length_map]) rfl
    unfold dueO
    by_cases h : (lone I).length = 1
    · rw [sIf_t (c.trans (by rw [decide_eq_true h])), if_pos h]
      obtain ⟨q, hq⟩ := List.length_eq_one_iff.mp h
      rw [hq]; rfl
    · rw [sIf_f (c.trans (by rw [decide_eq_false h])), if_neg h]; rfl
  refine (sSq_nx (sSetF_of (d := .lst ((srtN I).map pt)) (mLc_of (xs := (srtN I).map fun q => SK.pairD (sw q)) ?_ ?_ ?_))).trans ?_
  · unfold mItems
    rw [ev1 (d := .lst (I.map fun q => SK.pairD (sw q))) (mLc_of (xs := I.map pt) rfl (lcL_map pt _ I fun q _ => ⟨[s0, s1, s2, s3, s4, s5, s6, .val (encO (dueO (lone I))), .val (.int q.1), s9, s10, s11, .val (cv a b p), .val (.tup (I.map pt)), .val (.lst ((lone I).map pt)), s15, .val (.int q.2), s17, s18], rfl, rfl, rfl⟩) (by rw [List.length_map]; unfold LIM; omega)) (E_sorted I)]
    rfl
  · exact lcL_map (fun q => SK.pairD (sw q)) pt (srtN I) fun q _ => ⟨[s0, s1, s2, s3, s4, s5, s6, .val (encO (dueO (lone I))), .val (.int q.1), s9, s10, s11, .val (cv a b p), .val (.tup (I.map pt)), .val (.lst ((lone I).map pt)), s15, .val (.int q.2), s17, s18], rfl, rfl, rfl⟩
  · rw [List.length_map, (srtN_perm I).length_eq]; unfold LIM; omega
  refine (sSq_nx (Γ1 := [s0, s1, s2, s3, s4, s5, s6, .val (encO (dueO (lone I))), s8, s9, s10, s11, .val (cv a b p), .val (.tup (I.map pt)), .val (.lst ((lone I).map pt)), .val (.lst ((srtN I).map pt)), s16, s17, s18]) ?_).trans ?_
  · show (sIf _ _ _) [s0, s1, s2, s3, s4, s5, s6, .val (encO (dueO (lone I))), s8, s9, s10, s11, .val (cv a b p), .val (.tup (I.map pt)), .val (.lst ((lone I).map pt)), .val (.lst ((srtN I).map pt)), s16, s17, s18] = _
    refine (sIf_f (or_f (not_like (ev2 rfl rfl al) rfl rfl (ok_encO _)) (not_like (ev2 (d2 := .lst ((srtN I).reverse.map pt)) rfl ?_ ar) rfl rfl (ok_encO _)))).trans rfl
    show some (D.lst ((srtN I).map pt).reverse) = _
    rw [List.map_reverse]
  refine (sSq_nx ((sIf_f ?_).trans rfl)).trans ?_
  · have e1 : mBin dEq (mBin dMod (mCall dInt1 (mCons (mCall dLen (mCons (mVarB 13) mNil)) mNil)) (mC (.int 2))) (mC (.int 1)) [s0, s1, s2, s3, s4, s5, s6, .val (encO (dueO (lone I))), s8, s9, s10, s11, .val (cv a b p), .val (.tup (I.map pt)), .val (.lst ((lone I).map pt)), .val (.lst ((srtN I).map pt)), s16, s17, s18] = some (.bl (decide (I.length % 2 = 1))) := (mBin_of (x := .int (I.length % 2 : Nat)) (y := .int (1 : Nat)) (modN (x := I.length) (y := 2) (ev1 (d := .int I.length) (by
      show some (D.int ((I.map pt).length : Int)) = _
      rw [List.length_map]) rfl) rfl (by decide)) rfl).trans (deq_nat _ _)
    have e2 : mBin dGt (mCall dLen (mCons (mVarB 14) mNil)) (mC (.int 0)) [s0, s1, s2, s3, s4, s5, s6, .val (encO (dueO (lone I))), s8, s9, s10, s11, .val (cv a b p), .val (.tup (I.map pt)), .val (.lst ((lone I).map pt)), .val (.lst ((srtN I).map pt)), s16, s17, s18] = some (.bl (decide (0 < (lone I).length))) := by
      show some (D.bl (decide ((0 : Int) < (((lone I).map pt).length : Int)))) = _
      rw [List.length_map]
      by_cases h : 0 < (lone I).length
      · rw [decide_eq_true h, decide_eq_true (by omega)]
      · rw [decide_eq_false h, decide_eq_false (by omega)]
    refine mTB_of ((mBin_of e1 e2).trans ?_)
    rw [g3]
    show some (D.bl (!(decide (0 < (lone I).length) == decide (0 < (lone I).length)))) = _
    rw [beq_self_eq_true]; rfl
  · refine (sIf_f (not_t (ev1 (d := .lst ((lone I).map fun _ => .bl true)) (mLc_of (xs := (lone I).map pt) rfl (lcL_map pt _ (lone I) fun q hq => ⟨[s0, s1, s2, s3, s4, s5, s6, .val (encO (dueO (lone I))), s8, s9, s10, s11, .val (cv a b p), .val (.tup (I.map pt)), .val (.lst ((lone I).map pt)), .val (.lst ((srtN I).map pt)), s16, .val (pt q), s18], rfl, rfl, ?_⟩) (by rw [List.length_map]; unfold LIM; omega)) ?_))).trans rfl
    · obtain ⟨h1, h2⟩ := List.mem_filter.mp hq
      obtain ⟨x, y⟩ := q
      have h2 : y = 0 := beq_iff_eq.mp h2
      subst h2
      exact ev2 (d := .int 2) (ev2 rfl rfl (E_round a b p x (by omega) (by omega) (by omega) (pin _ h1).1)) rfl (like_eq rfl rfl)
    · show (blsOf ((lone I).map fun _ => D.bl true)).map _ = _
      rw [show ((lone I).map fun _ => D.bl true) = ((lone I).map fun _ => true).map D.bl by rw [List.map_map]; rfl, blsOf_map]
      show some (D.bl (((lone I).map fun _ => true).all id)) = _
      rw [List.all_eq_true.mpr fun x hx => by
        obtain ⟨_, _, rfl⟩ := List.mem_map.mp hx; rfl]

theorem mFor_nxG {g : MG} {b : MS} {x : D} {xs : List D} {Γ Γ0 Γ1 : En} (hg : g x Γ = some Γ0) (h : b Γ0 = some (.nx, Γ1)) : mFor g b (x :: xs) Γ = mFor g b xs Γ1 := mFor_nx (by rw [hg, Option.bind_some]; exact h)
theorem E_turned (a b p c : Nat) (hp : p ∈ PR) (ha : a < p) (hb : b < p) (hc : c < p) : m_turned_curve [cv a b p, .int c] = some (cv (a * c * c % p) (b * c * c * c % p) p) := by
  have pb := PR_b hp
  refine run_q rfl ?_
  unfold b_turned_curve
  refine q_nx (Γ1 := [.val (cv a b p), .val (.int c), .val (.int a), .val (.int b), .val (.int p)]) rfl (q_ret ?_)
  show (mCons _ _ _).bind _ = _
  rw [mCons_of (modN (mulN (mulN (x := a) (y := c) rfl rfl (by omega)) (y := c) rfl (by omega)) rfl (by omega)) (mCons_of (modN (mulN (mulN (mulN (x := b) (y := c) rfl rfl (by omega)) (y := c) rfl (by omega)) (y := c) rfl (by omega)) rfl (by omega)) (mCons_of (x := .int p) rfl rfl))]
  rfl
theorem sExt_of {i : Nat} {m : ME} {Γ : En} {xs ys : List D} (h : Γ[i]? = some (.own (.lst xs))) (hm : m Γ = some (.lst ys)) (hl : xs.length + ys.length ≤ LIM) : sExt i m Γ = some (.nx, Γ.set i (.own (.lst (xs ++ ys)))) := by
  unfold sExt ownL
  rw [h, hm]
  show (if xs.length + ys.length ≤ LIM then _ else _) = _
  rw [if_pos hl]
theorem ne_self (i : Int) : dNe (.int i) (.int i) = some (.bl false) := by
  show some (D.bl (!(i == i))) = _
  rw [beq_self_eq_true]; rfl
theorem ne0 {m : ME} {Γ : En} {i : Int} (hm : m Γ = some (.int i)) : mTB (mBin dNe m (mC (.int 0))) Γ = some (!decide (i = 0)) := mTB_of ((mBin_of hm rfl).trans (by
  show some (D.bl (!(i == 0))) = _
  by_cases h : i = 0
  · rw [decide_eq_true h, beq_iff_eq.mpr h]
  · rw [decide_eq_false h, beq_eq_false_iff_ne.mpr h]))
theorem mod_self0 (A p : Nat) : (((A % p : Nat) : Int) - (A : Int)) % (p : Int) = 0 := by
  refine Int.emod_eq_emod_iff_emod_sub_eq_zero.mp ?_
  rw [Int.natCast_emod, Int.emod_emod]
def dueF (a b p x : Nat) : List D := (rt p (sideN a b p x)).map fun y => pt (x, y)
theorem E_curve (a b p c : Nat) (hp : p ∈ PR) (ha : a < p) (hb : b < p) (hc : c < p) (hn : nonsq p c = true) (hg : sing a b p = false) : m__law_curve_right [cv a b p, .int c] = some (.bl true) := by
  have pb := PR_b hp
  have ha' : a * c * c % p < p := Nat.mod_lt _ (by omega)
  have hb' : b * c * c * c % p < p := Nat.mod_lt _ (by omega)
  have hg' := sing_ok hp hc hn hg
  have st := SN_turn (a := a) (b := b) hp hc hn
  have P1 := E_points a b p hp
  have P2 := E_points (a * c * c % p) (b * c * c * c % p) p hp
  have C1 := pts_count a b p
  have C2 := pts_count (a * c * c % p) (b * c * c * c % p) p
  have pl := pts_len (a := a) (b := b) hp
  have ET := E_turned a b p c hp ha hb hc
  have zz1 : a = 0 → p % 3 = 2 → SN a b p = 0 := fun h h2 => by subst h; exact (z_ok hp hb).1 h2
  have zz2 : b = 0 → p % 4 = 3 → SN a b p = 0 := fun h h2 => by subst h; exact (z_ok hp ha).2 h2
  refine run_q rfl ?_
  unfold b__law_curve_right
  refine q_nx (Γ := [.val (cv a b p), .val (.int c), .emp, .emp, .emp, .emp, .emp, .emp, .emp, .emp, .emp, .emp, .emp, .emp, .emp, .emp, .emp, .emp, .emp]) (Γ1 := [.val (cv a b p), .val (.int c), .val (.int a), .val (.int b), .val (.int p), .emp, .emp, .emp, .emp, .emp, .emp, .emp, .emp, .emp, .emp, .emp, .emp, .emp, .emp]) rfl ?_
  refine q_par (d := .int 0) rfl (ev1 rfl P1) ?_
  refine q_setO (d := .lst []) rfl ?_
  refine q_pre (fun x : Nat => D.int x) (fun done Γ => ∃ s8 s9, Γ = [.val (cv a b p), .val (.int c), .val (.int a), .val (.int b), .val (.int p), .val (.int (done.foldl (fun s x => s + F a b p x) 0)), .val (.tup ((ptsN a b p).map pt)), .own (.lst (done.flatMap (dueF a b p))), s8, s9, .emp, .emp, .emp, .emp, .emp, .emp, .emp, .emp, .emp]) (List.range p) (rng_len (n := p) rfl (by omega)) ⟨_, _, rfl⟩ ?_ ?_
  · intro d1 x d2 hd Γ ⟨s8, s9, e⟩
    subst e
    have hx : x < p := by
      have : x ∈ List.range p := by rw [hd]; simp
      exact List.mem_range.mp this
    have dl : d1.length ≤ p := by have := congrArg List.length hd; rw [List.length_range, List.length_append] at this; omega
    have sl : sideN a b p x < p := side_lt (by omega)
    obtain ⟨sg1, sg2⟩ := sg_ok hp sl
    have fl : (d1.flatMap (dueF a b p)).length ≤ 46 := by
      have := flat_len (dueF a b p) 2 d1 fun y _ => by
        show ((rt p _).map _).length ≤ 2
        rw [List.length_map]; exact rt_len hp (side_lt (by omega))
      omega
    generalize hS : d1.foldl (fun s x => s + F a b p x) 0 = S
    generalize hD : d1.flatMap (dueF a b p) = DD at *
    refine ⟨[.val (cv a b p), .val (.int c), .val (.int a), .val (.int b), .val (.int p), .val (.int (S + F a b p x)), .val (.tup ((ptsN a b p).map pt)), .own (.lst (DD ++ dueF a b p x)), .val (.int x), .val (.int (F a b p x)), .emp, .emp, .emp, .emp, .emp, .emp, .emp, .emp, .emp], ?_, _, _, by rw [List.foldl_append, hS, List.flatMap_append, hD, List.flatMap_singleton]; rfl⟩
    refine (sSq_nx (Γ := [.val (cv a b p), .val (.int c), .val (.int a), .val (.int b), .val (.int p), .val (.int S), .val (.tup ((ptsN a b p).map pt)), .own (.lst DD), .val (.int x), s9, .emp, .emp, .emp, .emp, .emp, .emp, .emp, .emp, .emp]) (sExt_of (ys := dueF a b p x) rfl (mLc_of (rng_len (n := p) rfl (by omega)) ?_ ?_) ?_)).trans ?_
    · unfold dueF
      rw [← rt_ok hp sl]
      refine lcL_filter (fun y : Nat => D.int y) _ (fun y => pt (x, y)) _ fun y hy => ?_
      have hy := List.mem_range.mp hy
      refine ⟨[.val (cv a b p), .val (.int c), .val (.int a), .val (.int b), .val (.int p), .val (.int S), .val (.tup ((ptsN a b p).map pt)), .own (.lst DD), .val (.int x), s9, .emp, .emp, .emp, .emp, .emp, .emp, .val (.int y), .emp, .emp], rfl, ?_, fun _ => rfl⟩
      rw [← cond2_eq p _ y sl]
      exact eqI0 (mod_of (ev1 (d := .int (((y * y : Nat) : Int) - (sideN a b p x : Int))) (subI (mulN (x := y) (y := y) rfl rfl (by omega)) (ev2 rfl rfl (E_side a b p x (by omega) (by omega)))) rfl) rfl (by omega))
    · show ((rt p _).map _).length ≤ _
      rw [List.length_map]; unfold LIM; omega
    · have : (dueF a b p x).length ≤ 2 := by
        show ((rt p _).map _).length ≤ 2
        rw [List.length_map]; exact sg2
      unfold LIM; omega
    have hsign : n_square_sign [.int (sideN a b p x), .int p] = some (.int (F a b p x)) := by
      show (if decide ((0 : Int) < (p : Int)) && decide ((p : Int) < 1999) then some (D.int (signN ((sideN a b p x : Int) % (p : Int)).toNat p)) else none) = _
      rw [decide_eq_true (by omega), decide_eq_true (by omega), ← Int.natCast_emod, Nat.mod_eq_of_lt sl]
      show some (D.int (signN (sideN a b p x) p)) = _
      rw [sg1]; rfl
    refine (sSq_nx (sSet_v (ev2 (ev2 rfl rfl (E_side a b p x (by omega) (by omega))) rfl hsign))).trans ?_
    have h3 : F a b p x = -1 ∨ F a b p x = 0 ∨ F a b p x = 1 := by unfold F; omega
    refine (sSq_nx (Γ1 := [.val (cv a b p), .val (.int c), .val (.int a), .val (.int b), .val (.int p), .val (.int S), .val (.tup ((ptsN a b p).map pt)), .own (.lst (DD ++ dueF a b p x)), .val (.int x), .val (.int (F a b p x)), .emp, .emp, .emp, .emp, .emp, .emp, .emp, .emp, .emp]) ?_).trans rfl
    generalize F a b p x = f at *
    rcases h3 with rfl | rfl | rfl <;> rfl
  intro Γ ⟨s8, s9, e⟩
  subst e
  rw [show (List.range p).foldl (fun s x => s + F a b p x) 0 = SN a b p from rfl, show (List.range p).flatMap (dueF a b p) = (ptsN a b p).map pt from pts_D.symm]
  generalize SN a b p = S at *
  refine q_skip (or_f (not_like (x := .tup ((ptsN a b p).map pt)) (y := .tup ((ptsN a b p).map pt)) rfl rfl rfl (ok_pts 7 _ (by omega))) ?_) ?_
  · refine mTB_of ((mBin_of (x := .int (p + S)) (y := .int (p + S)) ?_ rfl).trans (ne_self _))
    show some (D.int (((ptsN a b p).map pt).length : Int)) = _
    rw [List.length_map, C1]
  refine q_skip (or_f ((mtAnd_of (eqN (x := a) (y := 0) rfl rfl) (mtAnd_of (eqN (x := p % 3) (y := 2) (modN (x := p) (y := 3) (ev1 (d := .int p) rfl rfl) rfl (by decide)) rfl) (ne0 (i := S) rfl))).trans ?_) ((mtAnd_of (eqN (x := b) (y := 0) rfl rfl) (mtAnd_of (eqN (x := p % 4) (y := 3) (modN (x := p) (y := 4) (ev1 (d := .int p) rfl rfl) rfl (by decide)) rfl) (ne0 (i := S) rfl))).trans ?_)) ?_
  · by_cases h1 : a = 0
    · by_cases h2 : p % 3 = 2
      · rw [decide_eq_true (zz1 h1 h2)]; cases decide (a = 0) <;> cases decide (p % 3 = 2) <;> rfl
      · rw [decide_eq_false h2]; cases decide (a = 0) <;> rfl
    · rw [decide_eq_false h1]; rfl
  · by_cases h1 : b = 0
    · by_cases h2 : p % 4 = 3
      · rw [decide_eq_true (zz2 h1 h2)]; cases decide (b = 0) <;> cases decide (p % 4 = 3) <;> rfl
      · rw [decide_eq_false h2]; cases decide (b = 0) <;> rfl
    · rw [decide_eq_false h1]; rfl
  refine q_set (ev2 rfl rfl ET) ?_
  refine q_skip rfl ?_
  refine q_skip (or_f (mTB_of ((mBin_of (x := .int p) (y := .int p) rfl rfl).trans (ne_self _))) (or_f ((ne0 (mod_of (ev1 (d := .int (((a * c * c % p : Nat) : Int) - ((a * c * c : Nat) : Int))) (subI rfl (mulN (mulN (x := a) (y := c) rfl rfl (by omega)) (y := c) rfl (by omega))) rfl) rfl (by omega))).trans ?_) ((ne0 (mod_of (ev1 (d := .int (((b * c * c * c % p : Nat) : Int) - ((b * c * c * c : Nat) : Int))) (subI rfl (mulN (mulN (mulN (x := b) (y := c) rfl rfl (by omega)) (y := c) rfl (by omega)) (y := c) rfl (by omega))) rfl) rfl (by omega))).trans ?_))) ?_
  · rw [mod_self0]; rfl
  · rw [mod_self0]; rfl
  refine q_set (ev1 rfl P2) ?_
  refine q_skip (or_f rfl ?_) ?_
  · refine mTB_of ((mBin_of (x := .int (p - S)) (y := .int (p - S)) ?_ rfl).trans (ne_self _))
    show some (D.int (((ptsN (a * c * c % p) (b * c * c * c % p) p).map pt).length : Int)) = _
    rw [List.length_map, C2, st]
    congr 2
  obtain ⟨t7, t14, t15, e1⟩ := turn_ok (.val (cv a b p)) (.val (.int c)) (.val (.int a)) (.val (.int b)) (.val (.int p)) (.val (.int S)) (.val (.tup ((ptsN a b p).map pt))) (.own (.lst ((ptsN a b p).map pt))) s8 s9 (.val (cv (a * c * c % p) (b * c * c * c % p) p)) (.val (.tup ((ptsN (a * c * c % p) (b * c * c * c % p) p).map pt))) .emp .emp .emp .emp .emp a b p hp ha hb hg
  obtain ⟨r7, r14, r15, e2⟩ := turn_ok (.val (cv a b p)) (.val (.int c)) (.val (.int a)) (.val (.int b)) (.val (.int p)) (.val (.int S)) (.val (.tup ((ptsN a b p).map pt))) t7 s8 s9 (.val (cv (a * c * c % p) (b * c * c * c % p) p)) (.val (.tup ((ptsN (a * c * c % p) (b * c * c * c % p) p).map pt))) t14 t15 .emp .emp .emp (a * c * c % p) (b * c * c * c % p) p hp ha' hb' hg'
  refine q_nx ((sFor_of (xs := [.tup [cv a b p, .tup ((ptsN a b p).map pt)], .tup [cv (a * c * c % p) (b * c * c * c % p) p, .tup ((ptsN (a * c * c % p) (b * c * c * c % p) p).map pt)]]) rfl).trans ((mFor_nxG rfl e1).trans ((mFor_nxG rfl e2).trans rfl))) (q_ret rfl)
/-! ### the law -/
def nsq (p : Nat) : List Nat := (List.range p).filter (nonsq p)
def isFa : Option D → Bool
  | some (.bl false) => true
  | _ => false
theorem isFa_eq {x : Option D} (h : isFa x = true) : x = some (.bl false) := by
  unfold isFa at h
  split at h
  · rfl
  · cases h
theorem sq_all : PR.all (fun p => (nsq p).all fun c => isFa (m_is_square [.int c, .int p])) = true := by decide +kernel
theorem s01_all : PR.all (fun p => !sing 0 1 p && decide (0 < (nsq p).length)) = true := by decide +kernel
theorem likely (v0 v1 v3 v4 v5 v6 v7 : Slot) (p : Nat) (hp : p ∈ PR) : mLc (mRng2 (mC (.int 1)) (mVarB 2)) (gN 5) (mtNot (mTru (mCall dAny (mCons (mLc (mRng1 (mVarB 2)) (gN 7) mYes (mBin dEq (mBin dMod (mCall dInt1 (mCons (mBin dSub (mBin dMulI (mVarB 7) (mVarB 7)) (mVarB 5)) mNil)) (mVarB 2)) (mC (.int 0))) [7]) mNil)))) (mVar 5) [5] [v0, v1, .val (.int p), v3, v4, v5, v6, v7] = some (.lst ((nsq p).map fun c : Nat => D.int c)) := by
  unfold PR at hp
  simp only [List.mem_cons, List.not_mem_nil, or_false] at hp
  rcases hp with rfl | rfl | rfl | rfl | rfl | rfl | rfl <;> kernel_rfl
theorem mAnd_t {m n : ME} {Γ : En} (h : m Γ = some (.bl true)) : mAnd m n Γ = n Γ := by
  unfold mAnd
  rw [h]; rfl
theorem lenL (l : List Nat) : dLen [.lst (l.map fun c : Nat => D.int c)] = some (.int l.length) := by
  show some (D.int ((l.map fun c : Nat => D.int c).length : Int)) = _
  rw [List.length_map]
theorem law_true (ns : List Int) (hns : ns.length ≤ 63) : m_law [.scr ns] = some (.bl true) := by
  obtain ⟨row, rl, rb, er⟩ := E_row ns 20 (by decide)
  refine run_q rfl ?_
  unfold b_law
  show (sSq _ _ [.val (.scr ns), .emp, .emp, .emp, .emp, .emp, .emp, .emp]).map Prod.fst = _
  refine q_set (ev2 (d2 := .int (20 : Nat)) rfl rfl er) ?_
  obtain ⟨n0, hn0, bn0⟩ := nat_of (x := row.getD 0 0) (y := 59) (by decide)
  refine q_skip (not_t (ev2 (d := .int ((2 + n0 : Nat))) (d2 := .int (row.getD 1 0)) ?_ (row_int (row := row) (i := 1) rfl rfl (by omega)) (E_ring (2 + n0) _ (by omega) (by omega)))) ?_
  · exact (mBin_of (x := .int 2) (y := .int n0) rfl (hn0 ▸ mod_of (row_int (row := row) (i := 0) rfl rfl (by omega)) rfl (by decide))).trans rfl
  obtain ⟨k, hk, bk⟩ := nat_of (x := row.getD 2 0) (y := 7) (by decide)
  obtain ⟨p, hkp⟩ : ∃ p, PR[k]? = some p := ⟨_, List.getElem?_eq_getElem (show k < PR.length by show k < 7; omega)⟩
  have hp : p ∈ PR := List.mem_of_getElem? hkp
  have pb := PR_b hp
  refine q_set (d := .int p) ((mBin_of (x := .tup (PR.map fun q : Nat => D.int q)) (y := .int k) rfl (hk ▸ mod_of (row_int (row := row) (i := 2) rfl rfl (by omega)) rfl (by decide))).trans (show atI (PR.map fun q : Nat => D.int q) (k : Int) = _ from atI_nat (by rw [List.getElem?_map, hkp]; rfl))) ?_
  obtain ⟨a0, ha0, ba0⟩ := nat_of (x := row.getD 3 0) (y := p) (by omega)
  obtain ⟨b0, hb0, bb0⟩ := nat_of (x := row.getD 4 0) (y := p) (by omega)
  refine q_par (d := .int a0) (e := .int b0) (ha0 ▸ mod_of (row_int (row := row) (i := 3) rfl rfl (by omega)) rfl (by omega)) (hb0 ▸ mod_of (row_int (row := row) (i := 4) rfl rfl (by omega)) rfl (by omega)) ?_
  have c4 : ∀ (i : Int) (v3 v4 v5 v6 v7 : Slot), (mTB (mBin dEq (mBin dMod (mCall dInt1 (mCons (mBin dIx (mVarB 1) (mC (.int 5))) mNil)) (mC (.int 4))) (mC (.int i)))) [.val (.scr ns), .val (.lst (row.map .int)), .val (.int p), v3, v4, v5, v6, v7] = some (row.getD 5 0 % 4 == i) := fun i v3 v4 v5 v6 v7 => mTB_of ((mBin_of (mod_of (row_int (row := row) (i := 5) rfl rfl (by omega)) rfl (by decide)) rfl).trans rfl)
  refine q_blk (fun Γ => ∃ a1 : Nat, a1 < p ∧ Γ = [.val (.scr ns), .val (.lst (row.map .int)), .val (.int p), .val (.int a1), .val (.int b0), .emp, .emp, .emp]) ?_ ?_
  · cases h : (row.getD 5 0 % 4 == 1) with
    | true => exact ⟨_, (sIf_t ((c4 1 _ _ _ _ _).trans (by rw [h]))).trans (sSet_v (d := .int (0 : Nat)) rfl), 0, by omega, rfl⟩
    | false => exact ⟨_, (sIf_f ((c4 1 _ _ _ _ _).trans (by rw [h]))).trans rfl, a0, by omega, rfl⟩
  intro Γ ⟨a1, ha1, e⟩
  subst e
  refine q_blk (fun Γ => ∃ b1 : Nat, b1 < p ∧ Γ = [.val (.scr ns), .val (.lst (row.map .int)), .val (.int p), .val (.int a1), .val (.int b1), .emp, .emp, .emp]) ?_ ?_
  · cases h : (row.getD 5 0 % 4 == 2) with
    | true => exact ⟨_, (sIf_t ((c4 2 _ _ _ _ _).trans (by rw [h]))).trans (sSet_v (d := .int (0 : Nat)) rfl), 0, by omega, rfl⟩
    | false => exact ⟨_, (sIf_f ((c4 2 _ _ _ _ _).trans (by rw [h]))).trans rfl, b0, by omega, rfl⟩
  intro Γ ⟨b1, hb1, e⟩
  subst e
  have s01 := List.all_eq_true.mp s01_all p hp
  simp only [Bool.and_eq_true, Bool.not_eq_true', decide_eq_true_eq] at s01
  refine q_blk (fun Γ => ∃ a b : Nat, a < p ∧ b < p ∧ sing a b p = false ∧ Γ = [.val (.scr ns), .val (.lst (row.map .int)), .val (.int p), .val (.int a), .val (.int b), .emp, .emp, .emp]) ?_ ?_
  · have c : (mTB (mBin dEq (mBin dMod (mCall dInt1 (mCons (mBin dAdd (mBin dMulI (mBin dMulI (mBin dMulI (mC (.int 4)) (mVarB 3)) (mVarB 3)) (mVarB 3)) (mBin dMulI (mBin dMulI (mC (.int 27)) (mVarB 4)) (mVarB 4))) mNil)) (mVarB 2)) (mC (.int 0)))) [.val (.scr ns), .val (.lst (row.map .int)), .val (.int p), .val (.int a1), .val (.int b1), .emp, .emp, .emp] = some (sing a1 b1 p) := by
      unfold sing
      rw [beq_dec]
      exact eqN (y := 0) (modN (x := 4 * a1 * a1 * a1 + 27 * b1 * b1) (y := p) (ev1 (addN' (mulN (mulN (mulNl (x := 4) rfl rfl (by omega)) rfl (by omega)) rfl (by omega)) (mulN (mulNl (x := 27) rfl rfl (by omega)) rfl (by omega))) rfl) rfl (by omega)) rfl
    cases h : sing a1 b1 p with
    | true => exact ⟨[.val (.scr ns), .val (.lst (row.map .int)), .val (.int p), .val (.int (0 : Nat)), .val (.int (1 : Nat)), .emp, .emp, .emp], (sIf_t (c.trans (by rw [h]))).trans rfl, 0, 1, by omega, by omega, s01.1, rfl⟩
    | false => exact ⟨_, (sIf_f (c.trans (by rw [h]))).trans rfl, a1, b1, ha1, hb1, h, rfl⟩
  intro Γ ⟨a, b, ha, hb, hg, e⟩
  subst e
  refine q_setF (likely _ _ _ _ _ _ _ p hp) ?_
  obtain ⟨j, hj, bj⟩ := nat_of (x := row.getD 6 0) (y := ((nsq p).length : Int)) (by omega)
  obtain ⟨c, hjc⟩ : ∃ c, (nsq p)[j]? = some c := ⟨_, List.getElem?_eq_getElem (by omega)⟩
  have hcm := List.mem_of_getElem? hjc
  obtain ⟨hc1, hc2⟩ := List.mem_filter.mp hcm
  have hc := List.mem_range.mp hc1
  refine q_set (d := .int c) ((mBin_of (x := .lst ((nsq p).map fun c : Nat => D.int c)) (y := .int j) rfl (hj ▸ mod_of (row_int (row := row) (i := 6) rfl rfl (by omega)) (ev1 (d := .lst ((nsq p).map fun c : Nat => D.int c)) rfl (lenL (nsq p))) (by omega))).trans (show atI ((nsq p).map fun c : Nat => D.int c) (j : Int) = _ from atI_nat (by rw [List.getElem?_map, hjc]; rfl))) ?_
  have hq := isFa_eq (List.all_eq_true.mp (List.all_eq_true.mp sq_all p hp) c hcm)
  have E := E_curve a b p c hp ha hb hc hc2 hg
  exact q_ret ((mAnd_t ((mBin_of (x := .bl false) (y := .bl false) (ev2 rfl rfl hq) rfl).trans rfl)).trans (ev2 (d := cv a b p) (d2 := .int c) rfl rfl E))
end K76

open PySem PySem.W PySem.Calls PyProof.Rows
set_option maxHeartbeats 0 in
theorem PySem.Challenge.cw_sealskept_k76_whole_all_put_together_holds : PySem.Challenge.rw_sealskept_k76_whole_all_put_together.Holds := by
  w_on; o_law
  refine HandSHeadRun.head_any (r := OpenLaw.row PySem.Challenge.rw_sealskept_k76_whole_all_put_together) (q := view (OpenLaw.row PySem.Challenge.rw_sealskept_k76_whole_all_put_together).prog [30]) (H := K76.hk) (ob := K76.ob) (M := 20000) (loose := K76.nms) (d := HandSHeadRun.topDef (OpenLaw.row PySem.Challenge.rw_sealskept_k76_whole_all_put_together).prog 30) (kwd := []) K76.ob_eq
    (by kernel_rfl) (fun s => by kernel_rfl) K76.run (by kernel_rfl) (by kernel_rfl) (by kernel_rfl) (by rfl) (by first | assumption | decide +kernel) (by decide +kernel) ⟨rfl, rfl, rfl, rfl, rfl, by decide +kernel⟩ ?hw ?hc
  case hw => w_witness2
  case hc =>
    refine L2.walk_ofE (l := PySem.Challenge.rw_sealskept_k76_whole_all_put_together) (n := 63) (k := 14) (x := "script") (CX := L2.CX0) rfl (by decide) (by kernel_rfl) ⟨rfl, by decide, by decide⟩ ?F (fun _ _ _ _ z => z)
    intro w mg fa h Y G hmg0
    obtain ⟨K, KX, c⟩ := Y
    have hmg : mg ("law" : PySem.Str) = some (.ref fa) := by
      have e : (HandSHeadRun.topDef (OpenLaw.row PySem.Challenge.rw_sealskept_k76_whole_all_put_together).prog 30).name = ("law" : PySem.Str) := by kernel_rfl
      rw [← e]
      exact hmg0
    obtain ⟨T, hB⟩ := K76.facts KX G c
    have ef := hmg.symm.trans T.g_law
    cases ef
    exact ⟨K, T.fd_law, SK.spLaw K, KX, hB, fun H a ns hl _ hS => ⟨a, ns, rfl, hS, hl, fun _ => rfl⟩, fun base _ _ => SK.law_ok (K76.ok_law T) K76.law_true⟩

