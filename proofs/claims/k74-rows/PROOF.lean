import PyProof.Rows.All
import Wide.All
import OpenK.AllK
import Wide.FinOn
import HandS.ForMost
import HandS.Flow
import HandS.Style
import HandS.TupAny
import HandS.IsInst
import HandS.Walk
import HandS.Deep
import HandS.Conv
import HandS.Rev
import HandS.Zip
import HandS.NoneIn
import HandS.Sort
import HandS.SortKw
import HandS.TupMul
import HandS.TupSets
import HandS.Iter
import HandS.SortRule
import HandS.SortInts
import KE.KStateDown
import HandS.Head0
import HandS.Head1
import HandS.Head2
import HandS.HeadEnd
import HandS.HeadHook1
import HandS.Strs
import HandS.SetFor
import KE.GoesNew
import KE.GoesMore
import KE.GoesEnum
import KE.GoesZip
import HandS.WideBits
import HandS.Gcd
import HandS.Keys
import HandS.ClsMeth
import KE.SortKeyHeap
import KE.DataMinMax
import PySem.Challenge.RW_sealskept_k74_whole_weights_of_rows
set_option Elab.async false
set_option linter.all false
set_option maxRecDepth 100000
set_option maxHeartbeats 4000000
set_option autoImplicit false
namespace SK
open PySem PySem.Spec PyProof.Rows L2

/-! ### data without a heap -/
inductive D where
  | non | bl (b : Bool) | int (i : Int) | str (s : Str)
  | tup (xs : List D) | lst (xs : List D) | scr (ns : List Int)
  | dic (ks : List Int) (ds : List D) | dit (ks : List (List Int)) (ds : List D)

def D.isM : D → Bool
  | .lst _ => true
  | .dic _ _ => true
  | .dit _ _ => true
  | _ => false
def D.scal : D → Bool
  | .non => true
  | .bl _ => true
  | .int _ => true
  | .str _ => true
  | _ => false

mutual
inductive Rep (K : PySem.W.Frag) (F : Hp) : V → D → Prop
  | non : Rep K F .non .non
  | bl (b : Bool) : Rep K F (.bl b) (.bl b)
  | int (i : Int) : Rep K F (.int i) (.int i)
  | str (x : Str) : Rep K F (.str x) (.str x)
  | scr {a : Addr} {ns : List Int} : SqL K F a (ns.map V.int) → Rep K F (.ref a) (.scr ns)
  | ob {a : Addr} {o : HO} {d : D} : F a = some o → ObF K F o d → Rep K F (.ref a) d
inductive ObF (K : PySem.W.Frag) (F : Hp) : HO → D → Prop
  | tup {vs : List V} {ds : List D} : RepL K F vs ds → ObF K F (.tup vs) (.tup ds)
  | lst {vs : List V} {ds : List D} : RepL K F vs ds → ObF K F (.lst vs) (.lst ds)
  | dic {o : Obj} {kvs : List (L2.Key × V)} {ks : List Int} {vs : List V} {ds : List D} : kvs.map Prod.fst = ks.map Sum.inl → kvs.map Prod.snd = vs → RepL K F vs ds → ObF K F (.frz o (.dK kvs)) (.dic ks ds)
  | dit {o : Obj} {kvs : List (List L2.Key × V)} {ks : List (List Int)} {vs : List V} {ds : List D} : kvs.map Prod.fst = ks.map (List.map Sum.inl) → kvs.map Prod.snd = vs → RepL K F vs ds → ObF K F (.frz o (.dT kvs)) (.dit ks ds)
inductive RepL (K : PySem.W.Frag) (F : Hp) : List V → List D → Prop
  | nil : RepL K F [] []
  | cons {v : V} {vs : List V} {d : D} {ds : List D} : Rep K F v d → RepL K F vs ds → RepL K F (v :: vs) (d :: ds)
end

/-- an object of one's own: a list, a dict -/
inductive ObR (K : PySem.W.Frag) (F : Hp) : HO → D → Prop
  | lst {vs : List V} {ds : List D} : RepL K F vs ds → ObR K F (.lst vs) (.lst ds)
  | dic {kvs : List (L2.Key × V)} {ks : List Int} {vs : List V} {ds : List D} : kvs.map Prod.fst = ks.map Sum.inl → kvs.map Prod.snd = vs → RepL K F vs ds → ObR K F (.dK kvs) (.dic ks ds)
  | dit {kvs : List (List L2.Key × V)} {ks : List (List Int)} {vs : List V} {ds : List D} : kvs.map Prod.fst = ks.map (List.map Sum.inl) → kvs.map Prod.snd = vs → RepL K F vs ds → ObR K F (.dT kvs) (.dit ks ds)

section
variable {K : PySem.W.Frag} {F F' H H' : Hp}
mutual
theorem Rep.mono (s : Same F F') : ∀ {v : V} {d : D}, Rep K F v d → Rep K F' v d
  | _, _, .non => .non
  | _, _, .bl b => .bl b
  | _, _, .int i => .int i
  | _, _, .str x => .str x
  | _, _, .scr h => .scr (s.seq h)
  | _, _, .ob h r => .ob (s _ _ h) (ObF.mono s r)
theorem ObF.mono (s : Same F F') : ∀ {o : HO} {d : D}, ObF K F o d → ObF K F' o d
  | _, _, .tup r => .tup (RepL.mono s r)
  | _, _, .lst r => .lst (RepL.mono s r)
  | _, _, .dic e f r => .dic e f (RepL.mono s r)
  | _, _, .dit e f r => .dit e f (RepL.mono s r)
theorem RepL.mono (s : Same F F') : ∀ {vs : List V} {ds : List D}, RepL K F vs ds → RepL K F' vs ds
  | _, _, .nil => .nil
  | _, _, .cons h r => .cons (Rep.mono s h) (RepL.mono s r)
end
theorem ObR.mono (s : Same F F') {o : HO} {d : D} (h : ObR K F o d) : ObR K F' o d := by
  cases h with
  | lst r => exact .lst (r.mono s)
  | dic e f r => exact .dic e f (r.mono s)
  | dit e f r => exact .dit e f (r.mono s)
theorem RepL.length : ∀ {vs : List V} {ds : List D}, RepL K F vs ds → vs.length = ds.length
  | _, _, .nil => rfl
  | _, _, .cons _ r => congrArg (· + 1) (RepL.length r)
theorem RepL.append : ∀ {vs ws : List V} {ds es : List D}, RepL K F vs ds → RepL K F ws es → RepL K F (vs ++ ws) (ds ++ es)
  | _, _, _, _, .nil, s => s
  | _, _, _, _, .cons h r, s => .cons h (RepL.append r s)
theorem RepL.get : ∀ {vs : List V} {ds : List D} {i : Nat} {d : D}, RepL K F vs ds → ds[i]? = some d → ∃ v, vs[i]? = some v ∧ Rep K F v d
  | _, _, _, _, .nil, e => by simp at e
  | _, _, 0, _, .cons h _, e => by simp at e; subst e; exact ⟨_, rfl, h⟩
  | _, _, i + 1, d, .cons _ r, e => by
    obtain ⟨v, h1, h2⟩ := RepL.get (i := i) (d := d) r (by simpa using e)
    exact ⟨v, by simpa using h1, h2⟩
theorem RepL.at' : ∀ {vs : List V} {ds : List D} {i : Nat} {v : V}, RepL K F vs ds → vs[i]? = some v → ∃ d, ds[i]? = some d ∧ Rep K F v d
  | _, _, _, _, .nil, e => by simp at e
  | _, _, 0, _, .cons h _, e => by simp at e; subst e; exact ⟨_, rfl, h⟩
  | _, _, i + 1, d, .cons _ r, e => by
    obtain ⟨v, h1, h2⟩ := RepL.at' (i := i) (v := d) r (by simpa using e)
    exact ⟨v, by simpa using h1, h2⟩
theorem RepL.set : ∀ {vs : List V} {ds : List D} {v : V} {d : D} (i : Nat), RepL K F vs ds → Rep K F v d → RepL K F (vs.set i v) (ds.set i d)
  | _, _, _, _, _, .nil, _ => .nil
  | _, _, _, _, 0, .cons _ r, h => .cons h r
  | _, _, _, _, i + 1, .cons q r, h => .cons q (RepL.set i r h)
theorem RepL.take : ∀ {vs : List V} {ds : List D} (n : Nat), RepL K F vs ds → RepL K F (vs.take n) (ds.take n)
  | _, _, 0, _ => .nil
  | _, _, _ + 1, .nil => .nil
  | _, _, n + 1, .cons h r => .cons h (RepL.take n r)
theorem RepL.drop : ∀ {vs : List V} {ds : List D} (n : Nat), RepL K F vs ds → RepL K F (vs.drop n) (ds.drop n)
  | _, _, 0, r => r
  | _, _, _ + 1, .nil => .nil
  | _, _, n + 1, .cons _ r => RepL.drop n r
theorem RepL.reverse {vs : List V} {ds : List D} (r : RepL K F vs ds) : RepL K F vs.reverse ds.reverse := by
  induction vs generalizing ds with
  | nil => cases r; exact .nil
  | cons v vs ih =>
    cases r with
    | cons h r =>
      rw [List.reverse_cons, List.reverse_cons]
      exact (ih r).append (.cons h .nil)
theorem RepL.flatRep {vs : List V} {ds : List D} (r : RepL K F vs ds) : ∀ n : Nat, RepL K F (List.replicate n vs).flatten (List.replicate n ds).flatten
  | 0 => .nil
  | n + 1 => by
    rw [List.replicate_succ, List.replicate_succ, List.flatten_cons, List.flatten_cons]
    exact r.append (RepL.flatRep r n)

theorem same_upd {H : Hp} {p : Addr} {o : HO} (h : H p = none) : Same H (upd H p o) := fun b x e => by
  rw [upd_ne (ne_of_none e h)]
  exact e

/-- what is known newly: what is new, or a tuple -/
def Newly (H : Hp) (b : Addr) : Prop := H b = none ∨ ∃ xs, H b = some (.tup xs)
theorem Newly.back {H H' : Hp} (s : Same H H') {b : Addr} (h : Newly H' b) : Newly H b := by
  cases q : H b with
  | none => exact .inl q
  | some o =>
    have e := s _ _ q
    rcases h with h | ⟨xs, h⟩
    · rw [h] at e; cases e
    · rw [h] at e; cases e; exact .inr ⟨xs, q⟩
/-- the heap grows: F, what is known never to change, within H, what is tracked -/
structure Ext (F H F' H' : Hp) : Prop where
  f : Same F F'
  h : Same H H'
  fh : Same F' H'
  new : ∀ b o, F' b = some o → F b = none → Newly H b
theorem Ext.refl (s : Same F H) : Ext F H F H := ⟨.refl _, .refl _, s, fun b o e n => by rw [n] at e; cases e⟩
theorem Ext.trans {F2 H2 : Hp} (a : Ext F H F' H') (b : Ext F' H' F2 H2) : Ext F H F2 H2 := by
  refine ⟨a.f.trans b.f, a.h.trans b.h, b.fh, fun c o e n => ?_⟩
  cases q : F' c with
  | none => exact (b.new c o e q).back a.h
  | some u => exact a.new c u q n
/-- a new object, known never to change -/
theorem Ext.laid (s : Same F H) {p : Addr} {o : HO} (n : H p = none) : Ext F H (upd F p o) (upd H p o) := by
  refine ⟨same_upd (s.free n), same_upd n, fun b u e => ?_, fun b u e nb => ?_⟩
  · by_cases hb : b = p
    · subst hb; rw [upd_same] at e ⊢; exact e
    · rw [upd_ne hb] at e ⊢; exact s _ _ e
  · by_cases hb : b = p
    · subst hb; exact .inl n
    · rw [upd_ne hb, nb] at e; cases e
/-- a new object that may change -/
theorem Ext.own (s : Same F H) {p : Addr} {o : HO} (n : H p = none) : Ext F H F (upd H p o) :=
  ⟨.refl _, same_upd n, s.trans (same_upd n), fun b u e nb => by rw [nb] at e; cases e⟩
/-- an object that might have changed is known not to change from here on -/
theorem Ext.freeze (s : Same F H) {p : Addr} {o : HO} (h : H p = some o) (n : F p = none) : Same F (upd F p o) ∧ Same (upd F p o) H := by
  refine ⟨same_upd n, fun b u e => ?_⟩
  by_cases hb : b = p
  · subst hb; rw [upd_same] at e; rw [← e]; exact h
  · rw [upd_ne hb] at e; exact s _ _ e

/-- a value that is read: known, or a list of one's own -/
def RepB (K : PySem.W.Frag) (F H : Hp) (v : V) (d : D) : Prop := Rep K F v d ∨ (d.isM = true ∧ ∃ a o, v = .ref a ∧ H a = some o ∧ ObR K F o d)
theorem RepB.ext (e : Ext F H F' H') {v : V} {d : D} : RepB K F H v d → RepB K F' H' v d
  | .inl r => .inl (r.mono e.f)
  | .inr ⟨m, a, o, h1, h2, h3⟩ => .inr ⟨m, a, o, h1, e.h _ _ h2, h3.mono e.f⟩
theorem RepB.int {v : V} {i : Int} (r : RepB K F H v (.int i)) : v = .int i := by
  rcases r with r | ⟨m, _⟩
  · cases r with
    | int => rfl
    | ob _ q => cases q
  · cases m
theorem RepB.bl {v : V} {i : Bool} (r : RepB K F H v (.bl i)) : v = .bl i := by
  rcases r with r | ⟨m, _⟩
  · cases r with
    | bl => rfl
    | ob _ q => cases q
  · cases m
theorem RepB.str {v : V} {i : Str} (r : RepB K F H v (.str i)) : v = .str i := by
  rcases r with r | ⟨m, _⟩
  · cases r with
    | str => rfl
    | ob _ q => cases q
  · cases m
theorem RepB.non {v : V} (r : RepB K F H v .non) : v = .non := by
  rcases r with r | ⟨m, _⟩
  · cases r with
    | non => rfl
    | ob _ q => cases q
  · cases m
theorem Rep.tupI {v : V} {ds : List D} (r : Rep K F v (.tup ds)) : ∃ a vs, v = .ref a ∧ F a = some (.tup vs) ∧ RepL K F vs ds := by
  cases r with
  | ob h q => cases q with | tup q => exact ⟨_, _, rfl, h, q⟩
theorem Rep.lstI {v : V} {ds : List D} (r : Rep K F v (.lst ds)) : ∃ a vs, v = .ref a ∧ F a = some (.lst vs) ∧ RepL K F vs ds := by
  cases r with
  | ob h q => cases q with | lst q => exact ⟨_, _, rfl, h, q⟩
theorem RepB.full {v : V} {d : D} (r : RepB K F H v d) (h : d.isM = false) : Rep K F v d := by
  rcases r with r | ⟨m, _⟩
  · exact r
  · rw [h] at m; cases m
theorem RepB.tup {v : V} {ds : List D} (r : RepB K F H v (.tup ds)) : ∃ a vs, v = .ref a ∧ F a = some (.tup vs) ∧ RepL K F vs ds := (r.full rfl).tupI
theorem RepB.lst (s : Same F H) {v : V} {ds : List D} (r : RepB K F H v (.lst ds)) : ∃ a vs, v = .ref a ∧ H a = some (.lst vs) ∧ RepL K F vs ds := by
  rcases r with r | ⟨m, a, o, rfl, h, q⟩
  · obtain ⟨a, vs, rfl, h, q⟩ := r.lstI
    exact ⟨a, vs, rfl, s _ _ h, q⟩
  · cases q with | lst q => exact ⟨a, _, rfl, h, q⟩
theorem Rep.scrI {v : V} {ns : List Int} (r : Rep K F v (.scr ns)) : ∃ a, v = .ref a ∧ SqL K F a (ns.map V.int) := by
  cases r with
  | scr h => exact ⟨_, rfl, h⟩
  | ob _ q => cases q
theorem Rep.any {v : V} {d : D} (h : d.scal = true) (r : Rep K F v d) : Rep K F' v d := by
  cases r with
  | non => exact .non
  | bl b => exact .bl b
  | int i => exact .int i
  | str x => exact .str x
  | scr _ => cases h
  | ob _ q => cases q <;> cases h
end

/-! ### the slots -/
inductive Slot where
  | emp | val (d : D) | own (d : D)
abbrev En := List Slot

def SlotOk (K : PySem.W.Frag) (F H H0 : Hp) (o : Option V) : Slot → Prop
  | .emp => True
  | .val d => ∃ v, o = some v ∧ Rep K F v d
  | .own d => d.isM = true ∧ ∃ a ob, o = some (.ref a) ∧ F a = none ∧ H0 a = none ∧ H a = some ob ∧ ObR K F ob d

/-- what the slots and the heap hold: H0 at the def's entry, F never to change, H now -/
structure Rel (K : PySem.W.Frag) (H0 F H : Hp) (σ : L2.St) (Γ : En) : Prop where
  h0 : Same H0 H
  fh : Same F H
  len : σ.length = Γ.length
  sl : ∀ (i : Nat) (s : Slot), Γ[i]? = some s → ∃ o, σ[i]? = some o ∧ SlotOk K F H H0 o s
  sep : ∀ (i j : Nat) (d e : D) (a : Addr), Γ[i]? = some (.own d) → Γ[j]? = some (.own e) → σ[i]? = some (some (.ref a)) → σ[j]? = some (some (.ref a)) → i = j

section
variable {K : PySem.W.Frag} {F F' H H' H0 : Hp} {σ : L2.St} {Γ : En}
theorem SlotOk.ext (e : Ext F H F' H') {o : Option V} {s : Slot} (h : SlotOk K F H H0 o s) : SlotOk K F' H' H0 o s := by
  cases s with
  | emp => trivial
  | val d => obtain ⟨v, h1, h2⟩ := h; exact ⟨v, h1, h2.mono e.f⟩
  | own d =>
    obtain ⟨m, a, ob, h1, h2, h3, h4, h5⟩ := h
    refine ⟨m, a, ob, h1, ?_, h3, e.h _ _ h4, h5.mono e.f⟩
    cases q : F' a with
    | none => rfl
    | some u =>
      rcases e.new a u q h2 with z | ⟨xs, z⟩
      · rw [h4] at z; cases z
      · rw [h4] at z; cases z; cases h5
theorem Rel.ext (R : Rel K H0 F H σ Γ) (e : Ext F H F' H') : Rel K H0 F' H' σ Γ :=
  ⟨R.h0.trans e.h, e.fh, R.len, fun i s hi => by obtain ⟨o, h1, h2⟩ := R.sl i s hi; exact ⟨o, h1, h2.ext e⟩, R.sep⟩
theorem set_get {α : Type} {l : List α} {i j : Nat} {x y : α} (h : (l.set i x)[j]? = some y) : (i = j ∧ y = x ∧ i < l.length) ∨ (i ≠ j ∧ l[j]? = some y) := by
  rw [List.getElem?_set] at h
  by_cases e : i = j
  · subst e
    rw [if_pos rfl] at h
    by_cases q : i < l.length
    · rw [if_pos q] at h; cases h; exact .inl ⟨rfl, rfl, q⟩
    · rw [if_neg q] at h; cases h
  · rw [if_neg e] at h; exact .inr ⟨e, h⟩
theorem get_set {α : Type} {l : List α} {i : Nat} {x : α} (h : i < l.length) : (l.set i x)[i]? = some x := by
  rw [List.getElem?_set, if_pos rfl, if_pos h]
theorem get_set_ne {α : Type} {l : List α} {i j : Nat} {x : α} (h : i ≠ j) : (l.set i x)[j]? = l[j]? := by
  rw [List.getElem?_set, if_neg h]
theorem Rel.setVal (R : Rel K H0 F H σ Γ) (i : Nat) {v : V} {d : D} (r : Rep K F v d) : Rel K H0 F H (σ.set i (some v)) (Γ.set i (.val d)) := by
  refine ⟨R.h0, R.fh, by rw [List.length_set, List.length_set]; exact R.len, fun j s hj => ?_, fun j k d1 d2 a h1 h2 h3 h4 => ?_⟩
  · rcases set_get hj with ⟨rfl, rfl, hl⟩ | ⟨hne, hj⟩
    · exact ⟨some v, get_set (by rw [R.len]; exact hl), v, rfl, r⟩
    · obtain ⟨o, q1, q2⟩ := R.sl j s hj
      exact ⟨o, by rw [get_set_ne hne]; exact q1, q2⟩
  · rcases set_get h1 with ⟨_, e, _⟩ | ⟨n1, h1⟩
    · cases e
    · rcases set_get h2 with ⟨_, e, _⟩ | ⟨n2, h2⟩
      · cases e
      · rw [get_set_ne n1] at h3; rw [get_set_ne n2] at h4
        exact R.sep j k d1 d2 a h1 h2 h3 h4
/-- a new object of one's own in a slot -/
theorem Rel.setOwn (R : Rel K H0 F H σ Γ) (i : Nat) {a : Addr} {o : HO} {d : D} (m : d.isM = true) (fa : F a = none) (h0 : H0 a = none) (ha : H a = some o) (r : ObR K F o d)
    (n : ∀ (j : Nat) (e : D), Γ[j]? = some (.own e) → σ[j]? ≠ some (some (.ref a))) : Rel K H0 F H (σ.set i (some (.ref a))) (Γ.set i (.own d)) := by
  refine ⟨R.h0, R.fh, by rw [List.length_set, List.length_set]; exact R.len, fun j s hj => ?_, fun j k d1 d2 b h1 h2 h3 h4 => ?_⟩
  · rcases set_get hj with ⟨rfl, rfl, hl⟩ | ⟨hne, hj⟩
    · exact ⟨some (.ref a), get_set (by rw [R.len]; exact hl), m, a, o, rfl, fa, h0, ha, r⟩
    · obtain ⟨o, q1, q2⟩ := R.sl j s hj
      exact ⟨o, by rw [get_set_ne hne]; exact q1, q2⟩
  · rcases set_get h1 with ⟨e1, _, l1⟩ | ⟨n1, h1⟩
    · rcases set_get h2 with ⟨e2, _, _⟩ | ⟨n2, h2⟩
      · exact e1.symm.trans e2
      · subst e1
        rw [get_set (by rw [R.len]; exact l1)] at h3
        rw [get_set_ne n2] at h4
        injection h3 with h3; injection h3 with h3; injection h3 with h3
        subst h3
        exact absurd h4 (n k d2 h2)
    · rcases set_get h2 with ⟨e2, _, l2⟩ | ⟨n2, h2⟩
      · subst e2
        rw [get_set (by rw [R.len]; exact l2)] at h4
        rw [get_set_ne n1] at h3
        injection h4 with h4; injection h4 with h4; injection h4 with h4
        subst h4
        exact absurd h3 (n j d1 h1)
      · rw [get_set_ne n1] at h3; rw [get_set_ne n2] at h4
        exact R.sep j k d1 d2 b h1 h2 h3 h4
/-- an object that no slot has as its own is laid or changed -/
theorem Rel.updOff (R : Rel K H0 F H σ Γ) {a : Addr} {o : HO} (fa : F a = none) (h0 : H0 a = none) (n : ∀ (j : Nat) (e : D), Γ[j]? = some (.own e) → σ[j]? ≠ some (some (.ref a))) : Rel K H0 F (upd H a o) σ Γ := by
  have sf : ∀ G : Hp, G a = none → Same G H → Same G (upd H a o) := fun G g s b u e => by
    rw [upd_ne (ne_of_none e g)]; exact s _ _ e
  refine ⟨sf _ h0 R.h0, sf _ fa R.fh, R.len, fun i s hi => ?_, R.sep⟩
  obtain ⟨q, h1, h2⟩ := R.sl i s hi
  refine ⟨q, h1, ?_⟩
  cases s with
  | emp => trivial
  | val d => exact h2
  | own d =>
    obtain ⟨m, b, ob, e1, e2, e3, e4, e5⟩ := h2
    refine ⟨m, b, ob, e1, e2, e3, ?_, e5⟩
    rw [upd_ne (fun z => n i d hi (by rw [h1, e1, z]))]
    exact e4
/-- an object of a slot's own is changed -/
theorem Rel.updOwn (R : Rel K H0 F H σ Γ) {i : Nat} {a : Addr} {o : HO} {d d' : D} (hi : Γ[i]? = some (.own d)) (hs : σ[i]? = some (some (.ref a))) (m : d'.isM = true) (r : ObR K F o d') :
    Rel K H0 F (upd H a o) σ (Γ.set i (.own d')) := by
  obtain ⟨q, h1, m0, b, ob, e1, e2, e3, e4, e5⟩ := R.sl i _ hi
  rw [hs] at h1
  injection h1 with h1
  subst h1
  injection e1 with e1
  injection e1 with e1
  subst e1
  have sf : ∀ G : Hp, G a = none → Same G H → Same G (upd H a o) := fun G g s b u e => by
    rw [upd_ne (ne_of_none e g)]; exact s _ _ e
  refine ⟨sf _ e3 R.h0, sf _ e2 R.fh, by rw [List.length_set]; exact R.len, fun j s hj => ?_, fun j k d1 d2 b h1 h2 h3 h4 => ?_⟩
  · rcases set_get hj with ⟨rfl, rfl, hl⟩ | ⟨hne, hj⟩
    · exact ⟨_, hs, m, a, o, rfl, e2, e3, upd_same, r⟩
    · obtain ⟨u, q1, q2⟩ := R.sl j s hj
      refine ⟨u, q1, ?_⟩
      cases s with
      | emp => trivial
      | val d => exact q2
      | own d1 =>
        obtain ⟨m1, b1, ob1, f1, f2, f3, f4, f5⟩ := q2
        refine ⟨m1, b1, ob1, f1, f2, f3, ?_, f5⟩
        rw [upd_ne (fun z => hne (R.sep i j d d1 a hi hj hs (by rw [q1, f1, z])))]
        exact f4
  · have g : ∀ {x : Nat} {e : D}, (Γ.set i (.own d'))[x]? = some (.own e) → ∃ e', Γ[x]? = some (.own e') := fun {x e} h => by
      rcases set_get h with ⟨rfl, _, _⟩ | ⟨_, h⟩
      · exact ⟨d, hi⟩
      · exact ⟨_, h⟩
    obtain ⟨e1', g1⟩ := g h1
    obtain ⟨e2', g2⟩ := g h2
    exact R.sep j k _ _ b g1 g2 h3 h4
theorem Rel.ownAt (R : Rel K H0 F H σ Γ) {i : Nat} {d : D} (hi : Γ[i]? = some (.own d)) : d.isM = true ∧ ∃ a ob, σ[i]? = some (some (.ref a)) ∧ F a = none ∧ H0 a = none ∧ H a = some ob ∧ ObR K F ob d := by
  obtain ⟨q, h1, m0, b, ob, e1, e2, e3, e4, e5⟩ := R.sl i _ hi
  exact ⟨m0, b, ob, by rw [h1, e1], e2, e3, e4, e5⟩
theorem Rel.valAt (R : Rel K H0 F H σ Γ) {i : Nat} {d : D} (hi : Γ[i]? = some (.val d)) : ∃ v, σ[i]? = some (some v) ∧ Rep K F v d := by
  obtain ⟨q, h1, v, e1, e2⟩ := R.sl i _ hi
  exact ⟨v, by rw [h1, e1], e2⟩
theorem Rel.newOff (R : Rel K H0 F H σ Γ) {a : Addr} (n : H a = none) : ∀ (j : Nat) (e : D), Γ[j]? = some (.own e) → σ[j]? ≠ some (some (.ref a)) := fun j e hj hs => by
  obtain ⟨_, b, ob, h1, _, _, h4, _⟩ := R.ownAt hj
  rw [h1] at hs
  injection hs with hs; injection hs with hs; injection hs with hs
  subst hs
  rw [n] at h4; cases h4
/-- what a slot has as its own is given up -/
def frz1 (i : Nat) (Γ : En) : En := match Γ[i]? with
  | some (.own d) => Γ.set i (.val d)
  | _ => Γ
/-- an object of a slot's own is given up, and what stands there is known from here on -/
theorem Rel.freezeTo (R : Rel K H0 F H σ Γ) {i : Nat} {d : D} {a : Addr} {o : HO} (hi : Γ[i]? = some (.own d)) (h1 : σ[i]? = some (some (.ref a))) (h2 : F a = none) (h3 : H0 a = none) (r : ObF K (upd F a o) o d) :
    Same F (upd F a o) ∧ (∀ b u, upd F a o b = some u → F b = none → Newly H0 b) ∧ Rel K H0 (upd F a o) (upd H a o) σ (Γ.set i (.val d)) := by
  have s1 : Same F (upd F a o) := same_upd h2
  refine ⟨s1, fun b u e n => ?_, fun b u e => ?_, fun b u e => ?_, by rw [List.length_set]; exact R.len, fun j s hj => ?_, fun j k d1 d2 b g1 g2 g3 g4 => ?_⟩
  · by_cases hb : b = a
    · subst hb; exact .inl h3
    · rw [upd_ne hb, n] at e; cases e
  · rw [upd_ne (ne_of_none e h3)]; exact R.h0 _ _ e
  · by_cases hb : b = a
    · subst hb; rw [upd_same] at e ⊢; exact e
    · rw [upd_ne hb] at e ⊢; exact R.fh _ _ e
  · rcases set_get hj with ⟨rfl, rfl, hl⟩ | ⟨hne, hj⟩
    · exact ⟨_, h1, _, rfl, .ob upd_same r⟩
    · obtain ⟨u, q1, q2⟩ := R.sl j s hj
      refine ⟨u, q1, ?_⟩
      cases s with
      | emp => trivial
      | val d => obtain ⟨v, z1, z2⟩ := q2; exact ⟨v, z1, z2.mono s1⟩
      | own d1 =>
        obtain ⟨m1, b1, ob1, f1, f2, f3, f4, f5⟩ := q2
        have hne1 : b1 ≠ a := fun z => hne (R.sep i j d d1 a hi hj h1 (by rw [q1, f1, z]))
        refine ⟨m1, b1, ob1, f1, ?_, f3, ?_, f5.mono s1⟩
        · rw [upd_ne hne1]; exact f2
        · rw [upd_ne hne1]; exact f4
  · have g : ∀ {x : Nat} {e : D}, (Γ.set i (.val d))[x]? = some (.own e) → Γ[x]? = some (.own e) := fun {x e} h => by
      rcases set_get h with ⟨_, h, _⟩ | ⟨_, h⟩
      · cases h
      · exact h
    exact R.sep j k _ _ b (g g1) (g g2) g3 g4
theorem upd_id {H : Hp} {a : Addr} {o : HO} (h : H a = some o) : upd H a o = H := by
  funext b
  by_cases hb : b = a
  · subst hb; rw [upd_same, h]
  · rw [upd_ne hb]
end
end SK

set_option Elab.async false
set_option linter.all false
set_option maxRecDepth 100000
set_option maxHeartbeats 4000000
set_option autoImplicit false
namespace SK
open PySem PySem.Spec PyProof.Rows L2

/-! ### readings -/
abbrev ME := En → Option D
abbrev MA := En → Option (List D)
/-- a value known never to change -/
def rdE (K : PySem.W.Frag) (m : ME) : TE := fun σ H Q => ∃ H0 F Γ d, Rel K H0 F H σ Γ ∧ m Γ = some d ∧ ∀ v H' F', Ext F H F' H' → Rep K F' v d → Q v H'
/-- a value that is read at once -/
def rdB (K : PySem.W.Frag) (m : ME) : TE := fun σ H Q => ∃ H0 F Γ d, Rel K H0 F H σ Γ ∧ m Γ = some d ∧ ∀ v H' F', Ext F H F' H' → RepB K F' H' v d → Q v H'
/-- a new object of one's own -/
def rdN (K : PySem.W.Frag) (m : ME) : TE := fun σ H Q => ∃ H0 F Γ d, Rel K H0 F H σ Γ ∧ m Γ = some d ∧ ∀ a o H' F', Ext F H F' H' → H a = none → F' a = none → H' a = some o → d.isM = true → ObR K F' o d → Q (.ref a) H'
/-- arguments -/
def rdA (K : PySem.W.Frag) (m : MA) : TA := fun σ H Q => ∃ H0 F Γ ds, Rel K H0 F H σ Γ ∧ m Γ = some ds ∧ ∀ vs H' F', Ext F H F' H' → RepL K F' vs ds → Q vs H'
inductive RepBL (K : PySem.W.Frag) (F H : Hp) : List V → List D → Prop
  | nil : RepBL K F H [] []
  | cons {v : V} {vs : List V} {d : D} {ds : List D} : RepB K F H v d → RepBL K F H vs ds → RepBL K F H (v :: vs) (d :: ds)
def rdAB (K : PySem.W.Frag) (m : MA) : TA := fun σ H Q => ∃ H0 F Γ ds, Rel K H0 F H σ Γ ∧ m Γ = some ds ∧ ∀ vs H' F', Ext F H F' H' → RepBL K F' H' vs ds → Q vs H'
/-- a test -/
def rdT (K : PySem.W.Frag) (m : En → Option Bool) : TT := fun σ H Q => ∃ H0 F Γ b, Rel K H0 F H σ Γ ∧ m Γ = some b ∧ ∀ H' F', Ext F H F' H' → Q b H'

section
variable {X : Cx} {e : Expr}
theorem _root_.L2.PE.wk {t t' : TE} (h : PE X e t) (w : ∀ σ H Q, t' σ H Q → t σ H Q) : PE X e t' := ⟨fun pins s σ H Q I q => h.run pins s σ H Q I (w _ _ _ q)⟩
theorem _root_.L2.PT.wk {t t' : TT} (h : PT X e t) (w : ∀ σ H Q, t' σ H Q → t σ H Q) : PT X e t' := ⟨fun pins s σ H Q I q => h.run pins s σ H Q I (w _ _ _ q)⟩
theorem _root_.L2.PW.wk {t t' : TT} (h : PW X e t) (w : ∀ σ H Q, t' σ H Q → t σ H Q) : PW X e t' := ⟨fun wh pins s σ H Q I q => h.run wh pins s σ H Q I (w _ _ _ q)⟩
theorem _root_.L2.PA.wk {es : List Expr} {t t' : TA} (h : PA X es t) (w : ∀ σ H Q, t' σ H Q → t σ H Q) : PA X es t' := ⟨fun p pins s σ H Q I q => h.run p pins s σ H Q I (w _ _ _ q)⟩
theorem toB {m : ME} (h : PE X e (rdE X.K m)) : PE X e (rdB X.K m) := h.wk fun σ H Q ⟨H0, F, Γ, d, R, z, q⟩ => ⟨H0, F, Γ, d, R, z, fun v H' F' x r => q v H' F' x (.inl r)⟩
/-- a new object is given up: the heap of the abstract state may lock it -/
theorem Inv_give {pins : List (Addr × Obj)} {σ : L2.St} {F H : Hp} {s : Shared} {a : Addr} {o : HO} {d : D} (I : Inv X pins σ H s) (ha : H a = some o) (fa : F a = none) (r : ObR X.K F o d) :
    ∃ o', Inv X pins σ (upd H a o') s ∧ ObF X.K (upd F a o') o' d := by
  cases r with
  | lst r => exact ⟨_, by rw [upd_id ha]; exact I, .lst (r.mono (same_upd fa))⟩
  | dic e f r =>
    obtain ⟨od, I1⟩ := I.lock ha trivial
    exact ⟨_, I1, .dic e f (r.mono (same_upd fa))⟩
  | dit e f r =>
    obtain ⟨od, I1⟩ := I.lock ha trivial
    exact ⟨_, I1, .dit e f (r.mono (same_upd fa))⟩
theorem ofN {m : ME} (h : PE X e (rdN X.K m)) : PE X e (rdE X.K m) := ⟨fun pins s σ H Q I ⟨H0, F, Γ, d, R, z, q⟩ => by
  refine thn (h.run pins s σ H (fun v H' => ∃ a o F', v = .ref a ∧ Ext F H F' H' ∧ H a = none ∧ F' a = none ∧ H' a = some o ∧ d.isM = true ∧ ObR X.K F' o d) I ⟨H0, F, Γ, d, R, z, fun a o H' F' x n fa ha m r => ⟨a, o, F', rfl, x, n, fa, ha, m, r⟩⟩) fun v s1 ⟨x, H1, I1, rv, a, o, F1, ex, E1, n, fa, ha, m, r⟩ => ?_
  obtain ⟨o', I2, r2⟩ := Inv_give I1 ha fa r
  refine ⟨x, _, I2, rv, ?_⟩
  subst ex
  refine q (.ref a) (upd H1 a o') (upd F1 a o') ⟨E1.f.trans (same_upd fa), fun b u e => ?_, fun b u e => ?_, fun b u e nb => ?_⟩ (.ob upd_same r2)
  · rw [upd_ne (ne_of_none e n)]; exact E1.h _ _ e
  · by_cases hb : b = a
    · subst hb; rw [upd_same] at e ⊢; exact e
    · rw [upd_ne hb] at e ⊢; exact E1.fh _ _ e
  · by_cases hb : b = a
    · subst hb; exact .inl n
    · rw [upd_ne hb] at e; exact E1.new b u e nb⟩
end

/-! ### names, constants -/
def mVar (i : Nat) : ME := fun Γ => match Γ[i]? with
  | some (.val d) => some d
  | _ => none
def mVarB (i : Nat) : ME := fun Γ => match Γ[i]? with
  | some (.val d) => some d
  | some (.own d) => some d
  | _ => none
def mC (d : D) : ME := fun _ => some d
section
variable {X : Cx} {x : Str} {pos : Pos}
theorem r_var (i : Nat) (hN : X.N[i]? = some x := by rfl) (hv : Vis X.env.scope x := by first | exact Or.inl rfl | exact Or.inr (Or.inl rfl) | exact Or.inr (Or.inr rfl)) (hd : (x == ("__debug__" : Str)) = false := by decide)
    (hcd : (x == ("__classdict__" : Str)) = false := by decide) : PE X (.Name x pos) (rdE X.K (mVar i)) :=
  PE.wk (pe_var hN hv hd hcd) fun σ H Q ⟨H0, F, Γ, d, R, z, q⟩ => by
    unfold mVar at z
    split at z
    · rename_i d' hi
      cases z
      obtain ⟨v, h1, h2⟩ := R.valAt hi
      exact ⟨v, h1, q v H F (.refl R.fh) h2⟩
    · cases z
theorem r_varB (i : Nat) (hN : X.N[i]? = some x := by rfl) (hv : Vis X.env.scope x := by first | exact Or.inl rfl | exact Or.inr (Or.inl rfl) | exact Or.inr (Or.inr rfl)) (hd : (x == ("__debug__" : Str)) = false := by decide)
    (hcd : (x == ("__classdict__" : Str)) = false := by decide) : PE X (.Name x pos) (rdB X.K (mVarB i)) :=
  PE.wk (pe_var hN hv hd hcd) fun σ H Q ⟨H0, F, Γ, d, R, z, q⟩ => by
    unfold mVarB at z
    split at z
    · rename_i d' hi
      cases z
      obtain ⟨v, h1, h2⟩ := R.valAt hi
      exact ⟨v, h1, q v H F (.refl R.fh) (.inl h2)⟩
    · rename_i d' hi
      cases z
      obtain ⟨m, a, ob, h1, h2, h3, h4, h5⟩ := R.ownAt hi
      exact ⟨.ref a, h1, q _ H F (.refl R.fh) (.inr ⟨m, a, ob, rfl, h4, h5⟩)⟩
    · cases z
theorem rC {e : Expr} {v : V} {d : D} (h : PE X e (tC v)) (r : ∀ F, Rep X.K F v d) : PE X e (rdE X.K (mC d)) :=
  PE.wk h fun σ H Q ⟨H0, F, Γ, d, R, z, q⟩ => by
    cases z
    exact q v H F (.refl R.fh) (r F)
theorem r_int {i j} : PE X (.Constant (.int i) j pos) (rdE X.K (mC (.int i))) := rC pe_int fun _ => .int i
theorem r_bl {b j} : PE X (.Constant (.bool b) j pos) (rdE X.K (mC (.bl b))) := rC pe_bl fun _ => .bl b
theorem r_non {j} : PE X (.Constant .none j pos) (rdE X.K (mC .non)) := rC pe_non fun _ => .non
theorem r_str {s j} : PE X (.Constant (.str s) j pos) (rdE X.K (mC (.str s))) := rC pe_str fun _ => .str s
/-- a module's int -/
theorem r_glob {i : Int} {t : Tok} (hg : Gl X x) (hm : X.mg x = some (.int i t)) (hd : (x == ("__debug__" : Str)) = false := by decide) : PE X (.Name x pos) (rdE X.K (mC (.int i))) :=
  rC (pe_glob hg hm (show RelV (.int i) (.int i t) from ⟨t, rfl⟩) hd) fun _ => .int i
end

/-! ### two operands -/
def mBin (f : D → D → Option D) (a b : ME) : ME := fun Γ => (a Γ).bind fun x => (b Γ).bind fun y => f x y
def mUn (f : D → Option D) (a : ME) : ME := fun Γ => (a Γ).bind f
/-- an operation by data: r, HandS's reading, holds where f says what comes -/
def Op2 (K : PySem.W.Frag) (f : D → D → Option D) (r : R2) : Prop :=
  ∀ F H x y dx dy d Q, Same F H → RepB K F H x dx → RepB K F H y dy → f dx dy = some d → (∀ v H' F', Ext F H F' H' → Rep K F' v d → Q v H') → r x y H Q
def Op2N (K : PySem.W.Frag) (f : D → D → Option D) (r : R2) : Prop :=
  ∀ F H x y dx dy d Q, Same F H → RepB K F H x dx → RepB K F H y dy → f dx dy = some d → (∀ a o H' F', Ext F H F' H' → H a = none → F' a = none → H' a = some o → d.isM = true → ObR K F' o d → Q (.ref a) H') → r x y H Q
section
variable {X : Cx} {a b c : Expr} {pos : Pos} {ma mb mc : ME} {f g : D → D → Option D} {r r' : R2}
theorem two (hf : Op2 X.K f r) {σ H Q} (h : rdE X.K (mBin f ma mb) σ H Q) : tOp r (rdB X.K ma) (rdB X.K mb) σ H Q := by
  obtain ⟨H0, F, Γ, d, R, z, q⟩ := h
  obtain ⟨dx, ex, z⟩ := Option.bind_eq_some_iff.mp z
  obtain ⟨dy, ey, z⟩ := Option.bind_eq_some_iff.mp z
  exact ⟨H0, F, Γ, dx, R, ex, fun x H1 F1 E1 rx => ⟨H0, F1, Γ, dy, R.ext E1, ey, fun y H2 F2 E2 ry => hf F2 H2 x y dx dy d Q E2.fh (rx.ext E2) ry z fun v H' F' E3 rv => q v H' F' ((E1.trans E2).trans E3) rv⟩⟩
theorem twoN (hf : Op2N X.K f r) {σ H Q} (h : rdN X.K (mBin f ma mb) σ H Q) : tOp r (rdB X.K ma) (rdB X.K mb) σ H Q := by
  obtain ⟨H0, F, Γ, d, R, z, q⟩ := h
  obtain ⟨dx, ex, z⟩ := Option.bind_eq_some_iff.mp z
  obtain ⟨dy, ey, z⟩ := Option.bind_eq_some_iff.mp z
  exact ⟨H0, F, Γ, dx, R, ex, fun x H1 F1 E1 rx => ⟨H0, F1, Γ, dy, R.ext E1, ey, fun y H2 F2 E2 ry => hf F2 H2 x y dx dy d Q E2.fh (rx.ext E2) ry z fun a o H' F' E3 n => q a o H' F' ((E1.trans E2).trans E3) ((E1.trans E2).h.free n)⟩⟩
theorem one {h : V → Hp → VK → Prop} {f : D → Option D} (hf : ∀ F H x dx d Q, Same F H → RepB X.K F H x dx → f dx = some d → (∀ v H' F', Ext F H F' H' → Rep X.K F' v d → Q v H') → h x H Q) {σ H Q} (z : rdE X.K (mUn f ma) σ H Q) :
    rdB X.K ma σ H fun x H1 => h x H1 Q := by
  obtain ⟨H0, F, Γ, d, R, z, q⟩ := z
  obtain ⟨dx, ex, z⟩ := Option.bind_eq_some_iff.mp z
  exact ⟨H0, F, Γ, dx, R, ex, fun x H1 F1 E1 rx => hf F1 H1 x dx d Q E1.fh rx z fun v H' F' E3 rv => q v H' F' (E1.trans E3) rv⟩
theorem oneN {h : V → Hp → VK → Prop} {f : D → Option D} (hf : ∀ F H x dx d Q, Same F H → RepB X.K F H x dx → f dx = some d → (∀ a o H' F', Ext F H F' H' → H a = none → F' a = none → H' a = some o → d.isM = true → ObR X.K F' o d → Q (.ref a) H') → h x H Q) {σ H Q} (z : rdN X.K (mUn f ma) σ H Q) :
    rdB X.K ma σ H fun x H1 => h x H1 Q := by
  obtain ⟨H0, F, Γ, d, R, z, q⟩ := z
  obtain ⟨dx, ex, z⟩ := Option.bind_eq_some_iff.mp z
  exact ⟨H0, F, Γ, dx, R, ex, fun x H1 F1 E1 rx => hf F1 H1 x dx d Q E1.fh rx z fun a o H' F' E3 n => q a o H' F' (E1.trans E3) (E1.h.free n)⟩

theorem r_bin {op : Operator} (ho : OpR X (binaryOp op) r) (hf : Op2 X.K f r) (ha : PE X a (rdB X.K ma)) (hb : PE X b (rdB X.K mb)) : PE X (.BinOp a op b pos) (rdE X.K (mBin f ma mb)) :=
  PE.wk (pe_op ho ha hb) fun _ _ _ h => two hf h
theorem r_binN {op : Operator} (ho : OpR X (binaryOp op) r) (hf : Op2N X.K f r) (ha : PE X a (rdB X.K ma)) (hb : PE X b (rdB X.K mb)) : PE X (.BinOp a op b pos) (rdN X.K (mBin f ma mb)) :=
  PE.wk (pe_op ho ha hb) fun _ _ _ h => twoN hf h
theorem r_cmp {op : CmpOp} (ho : OpR X (compareOp op) r) (hf : Op2 X.K f r) (ha : PE X a (rdB X.K ma)) (hb : PE X b (rdB X.K mb)) (hm : behindInMarks op b = false) : PE X (.Compare a [op] [b] pos) (rdE X.K (mBin f ma mb)) :=
  PE.wk (pe_cmpR ho ha hb hm) fun _ _ _ h => two hf h
end

/-! ### ints -/
def fI (g : Int → Int → Option D) : D → D → Option D
  | .int i, .int j => g i j
  | _, _ => none
theorem op2I {K : PySem.W.Frag} {g : Int → Int → Option D} {C : Int → Int → Prop} {h : Int → Int → Int} (hg : ∀ i j d, g i j = some d → C i j ∧ d = .int (h i j)) : Op2 K (fI g) (rI C fun i j => .int (h i j)) := by
  intro F H x y dx dy d Q s rx ry e q
  unfold fI at e
  split at e
  · obtain ⟨c, rfl⟩ := hg _ _ _ e
    exact ⟨_, _, rx.int, ry.int, c, q _ H F (.refl s) (.int _)⟩
  · cases e
theorem op2I0 {K : PySem.W.Frag} {g : Int → Int → Option D} {h : Int → Int → Int} (hg : ∀ i j d, g i j = some d → d = .int (h i j)) : Op2 K (fI g) (rI0 fun i j => .int (h i j)) := by
  intro F H x y dx dy d Q s rx ry e q
  unfold fI at e
  split at e
  · cases hg _ _ _ e
    exact ⟨_, _, rx.int, ry.int, q _ H F (.refl s) (.int _)⟩
  · cases e
theorem op2B0 {K : PySem.W.Frag} {g : Int → Int → Option D} {h : Int → Int → Bool} (hg : ∀ i j d, g i j = some d → d = .bl (h i j)) : Op2 K (fI g) (rI0 fun i j => .bl (h i j)) := by
  intro F H x y dx dy d Q s rx ry e q
  unfold fI at e
  split at e
  · cases hg _ _ _ e
    exact ⟨_, _, rx.int, ry.int, q _ H F (.refl s) (.bl _)⟩
  · cases e
theorem some_eq {α : Type} {a b : α} (h : some a = some b) : b = a := (Option.some.inj h).symm
def dSub := fI fun i j => some (.int (i - j))
def okMul (i j : Int) : Bool := decide (i.natAbs < 2 ^ 64) || decide (j.natAbs < 2 ^ 64)
def dMulI := fI fun i j => if okMul i j then some (.int (i * j)) else none
def dDiv := fI fun i j => if decide (0 < j) && decide (j < 1073741824) then some (.int (i / j)) else none
def dMod := fI fun i j => if decide (0 < j) then some (.int (i % j)) else none
def dPow := fI fun i j => if decide (0 ≤ j) && decide (j ≤ 1000000) && decide (i.natAbs < 2 ^ 64) then some (.int (i ^ j.toNat)) else none
def dShl := fI fun i j => if decide (0 ≤ j) && decide (j ≤ 1000000) && decide (i.natAbs < 2 ^ 64) then some (.int (i * 2 ^ j.toNat)) else none
def dShr := fI fun i j => if decide (0 ≤ j) then some (.int (i / 2 ^ j.toNat)) else none
def dAnd := fI fun i j => some (.int (Builtin.bitAnd i j))
def dOr := fI fun i j => some (.int (Builtin.bitOr i j))
def dXor := fI fun i j => some (.int (Builtin.bitXor i j))
def dLt := fI fun i j => some (.bl (decide (i < j)))
def dLe := fI fun i j => some (.bl (decide (i ≤ j)))
def dGt := fI fun i j => some (.bl (decide (j < i)))
def dGe := fI fun i j => some (.bl (decide (j ≤ i)))
theorem ite_some {c : Bool} {a b : D} (h : (if c then some a else none) = some b) : c = true ∧ b = a := by
  cases c
  · cases h
  · exact ⟨rfl, (Option.some.inj h).symm⟩
theorem two64 : (2 : Nat) ^ 64 = 18446744073709551616 := by decide
theorem two64i : (2 : Int) ^ 64 = 18446744073709551616 := by decide
theorem cmul_of {i j : Int} (h : okMul i j = true) : CMul i j := by
  unfold okMul at h
  unfold CMul
  rcases Bool.or_eq_true_iff.mp h with h | h
  · have h := of_decide_eq_true h
    rw [two64] at h
    exact .inl (by rw [two64i]; omega)
  · have h := of_decide_eq_true h
    rw [two64] at h
    exact .inr (by rw [two64i]; omega)
section
variable {K : PySem.W.Frag}
theorem d_sub : Op2 K dSub (rI0 fun i j => .int (i - j)) := op2I0 fun _ _ _ h => some_eq h
theorem d_mulI : Op2 K dMulI (rI CMul fun i j => .int (i * j)) := op2I fun i j d h => by
  obtain ⟨c, e⟩ := ite_some h
  exact ⟨cmul_of c, e⟩
theorem d_div : Op2 K dDiv (rI CDiv fun i j => .int (i / j)) := op2I fun i j d h => by
  obtain ⟨c, e⟩ := ite_some h
  obtain ⟨c1, c2⟩ := Bool.and_eq_true_iff.mp c
  exact ⟨⟨of_decide_eq_true c1, of_decide_eq_true c2⟩, e⟩
theorem d_mod : Op2 K dMod (rI (fun _ j => 0 < j) fun i j => .int (i % j)) := op2I fun i j d h => by
  obtain ⟨c, e⟩ := ite_some h
  exact ⟨of_decide_eq_true c, e⟩
theorem d_pow : Op2 K dPow (rI CPow fun i j => .int (i ^ j.toNat)) := op2I fun i j d h => by
  obtain ⟨c, e⟩ := ite_some h
  obtain ⟨c, c3⟩ := Bool.and_eq_true_iff.mp c
  obtain ⟨c1, c2⟩ := Bool.and_eq_true_iff.mp c
  exact ⟨⟨of_decide_eq_true c1, of_decide_eq_true c2, of_decide_eq_true c3⟩, e⟩
theorem d_shl : Op2 K dShl (rI CPow fun i j => .int (i * 2 ^ j.toNat)) := op2I fun i j d h => by
  obtain ⟨c, e⟩ := ite_some h
  obtain ⟨c, c3⟩ := Bool.and_eq_true_iff.mp c
  obtain ⟨c1, c2⟩ := Bool.and_eq_true_iff.mp c
  exact ⟨⟨of_decide_eq_true c1, of_decide_eq_true c2, of_decide_eq_true c3⟩, e⟩
theorem d_shr : Op2 K dShr (rI (fun _ j => 0 ≤ j) fun i j => .int (i / 2 ^ j.toNat)) := op2I fun i j d h => by
  obtain ⟨c, e⟩ := ite_some h
  exact ⟨of_decide_eq_true c, e⟩
theorem d_and : Op2 K dAnd (rI0 fun i j => .int (Builtin.bitAnd i j)) := op2I0 fun _ _ _ h => some_eq h
theorem d_or : Op2 K dOr (rI0 fun i j => .int (Builtin.bitOr i j)) := op2I0 fun _ _ _ h => some_eq h
theorem d_xor : Op2 K dXor (rI0 fun i j => .int (Builtin.bitXor i j)) := op2I0 fun _ _ _ h => some_eq h
theorem d_lt : Op2 K dLt (rI0 fun i j => .bl (decide (i < j))) := op2B0 fun _ _ _ h => some_eq h
theorem d_le : Op2 K dLe (rI0 fun i j => .bl (decide (i ≤ j))) := op2B0 fun _ _ _ h => some_eq h
theorem d_gt : Op2 K dGt (rI0 fun i j => .bl (decide (j < i))) := op2B0 fun _ _ _ h => some_eq h
theorem d_ge : Op2 K dGe (rI0 fun i j => .bl (decide (j ≤ i))) := op2B0 fun _ _ _ h => some_eq h
end

/-! ### + of anything; * of a sequence -/
def LIM : Nat := 16777216
theorem lim_line : LIM = sizeLine := by decide
def dAdd : D → D → Option D
  | .int i, .int j => some (.int (i + j))
  | .tup xs, .tup ys => if xs.length + ys.length ≤ LIM then some (.tup (xs ++ ys)) else none
  | .lst xs, .lst ys => if xs.length + ys.length ≤ LIM then some (.lst (xs ++ ys)) else none
  | .str x, .str y => if x.length + y.length ≤ LIM then some (.str (x ++ y)) else none
  | _, _ => none
def rAddA (K : PySem.W.Frag) : R2 := fun x y H Q => (((∃ i j, x = .int i ∧ y = .int j ∧ Q (.int (i + j)) H) ∨ rCatA K x y H Q) ∨ rCat x y H Q) ∨ (∃ i j, x = .str i ∧ y = .str j ∧ i.length + j.length ≤ sizeLine ∧ Q (.str (i ++ j)) H)
theorem op_addA {X : Cx} : OpR X (binaryOp .Add) (rAddA X.K) := ((OpR.or (OpR.or op_add op_catA) op_cat).or op_add_str)
theorem if_some {c : Prop} [Decidable c] {a b : D} (h : (if c then some a else none) = some b) : c ∧ b = a := by
  by_cases hc : c
  · rw [if_pos hc] at h; exact ⟨hc, (Option.some.inj h).symm⟩
  · rw [if_neg hc] at h; cases h
section
variable {K : PySem.W.Frag}
theorem d_add : Op2 K dAdd (rAddA K) := by
  intro F H x y dx dy d Q s rx ry e q
  unfold dAdd at e
  split at e
  · cases e
    exact .inl (.inl (.inl ⟨_, _, rx.int, ry.int, q _ H F (.refl s) (.int _)⟩))
  · obtain ⟨c, rfl⟩ := if_some e
    rw [lim_line] at c
    obtain ⟨a, vs, rfl, h1, r1⟩ := rx.tup
    obtain ⟨b, ws, rfl, h2, r2⟩ := ry.tup
    refine .inl (.inl (.inr ⟨a, b, vs, ws, rfl, rfl, .of (s _ _ h1), .of (s _ _ h2), by rw [r1.length, r2.length]; exact c, fun e => ?_, fun _ e => ?_, fun _ _ p np => ?_⟩))
    · subst e
      cases r1
      exact q _ H F (.refl s) (.ob h2 (.tup r2))
    · subst e
      cases r2
      refine q _ H F (.refl s) (.ob h1 (.tup ?_))
      rw [List.append_nil]; exact r1
    · have E := Ext.laid s (o := .tup (vs ++ ws)) np
      exact q _ _ _ E (.ob upd_same (.tup ((r1.append r2).mono E.f)))
  · obtain ⟨c, rfl⟩ := if_some e
    rw [lim_line] at c
    obtain ⟨a, vs, rfl, h1, r1⟩ := rx.lst s
    obtain ⟨b, ws, rfl, h2, r2⟩ := ry.lst s
    refine .inl (.inr ⟨a, b, vs, ws, rfl, rfl, h1, h2, by rw [r1.length, r2.length]; exact c, fun p np => ?_⟩)
    have E := Ext.laid s (o := .lst (vs ++ ws)) np
    exact q _ _ _ E (.ob upd_same (.lst ((r1.append r2).mono E.f)))
  · obtain ⟨c, rfl⟩ := if_some e
    rw [lim_line] at c
    exact .inr ⟨_, _, rx.str, ry.str, c, q _ H F (.refl s) (.str _)⟩
  · cases e
/-- list + list, the new list one's own -/
def dCat : D → D → Option D
  | .lst xs, .lst ys => if xs.length + ys.length ≤ LIM then some (.lst (xs ++ ys)) else none
  | _, _ => none
theorem d_cat : Op2N K dCat rCat := by
  intro F H x y dx dy d Q s rx ry e q
  unfold dCat at e
  split at e
  · obtain ⟨c, rfl⟩ := if_some e
    rw [lim_line] at c
    obtain ⟨a, vs, rfl, h1, r1⟩ := rx.lst s
    obtain ⟨b, ws, rfl, h2, r2⟩ := ry.lst s
    refine ⟨a, b, vs, ws, rfl, rfl, h1, h2, by rw [r1.length, r2.length]; exact c, fun p np => ?_⟩
    exact q p _ _ F (Ext.own s np) np (s.free np) upd_same rfl (.lst (r1.append r2))
  · cases e
end
end SK

set_option Elab.async false
set_option linter.all false
set_option maxRecDepth 100000
set_option maxHeartbeats 4000000
set_option autoImplicit false
namespace SK
open PySem PySem.Spec PyProof.Rows L2

/-! ### equality of data -/
mutual
def D.py : D → PyData
  | .non => .none
  | .bl b => .bool b
  | .int i => .int i
  | .str s => .str s
  | .tup xs => .tuple (D.pyL xs)
  | .lst xs => .list (D.pyL xs)
  | .scr ns => .list (ns.map .int)
  | .dic _ _ => .none
  | .dit _ _ => .none
def D.pyL : List D → List PyData
  | [] => []
  | x :: xs => D.py x :: D.pyL xs
end
mutual
def D.eqb : D → D → Bool
  | .non, .non => true
  | .bl a, .bl b => a == b
  | .bl a, .int j => (if a then 1 else 0) == j
  | .int i, .bl b => i == (if b then 1 else 0)
  | .int i, .int j => i == j
  | .str x, .str y => x == y
  | .tup xs, .tup ys => D.eqbL xs ys
  | .lst xs, .lst ys => D.eqbL xs ys
  | _, _ => false
def D.eqbL : List D → List D → Bool
  | [], [] => true
  | x :: xs, y :: ys => D.eqb x y && D.eqbL xs ys
  | _, _ => false
end
def D.shp : Nat → D → Bool
  | _, .non => true
  | _, .bl _ => true
  | _, .int _ => true
  | _, .str s => PyData.strOk s
  | n + 1, .tup xs => xs.all (D.shp n)
  | n + 1, .lst xs => xs.all (D.shp n)
  | _, _ => false
theorem shp_ok : ∀ (n : Nat) (d : D), D.shp n d = true → d.py.canLay0 = true ∧ d.py.depth ≤ n := by
  intro n
  induction n with
  | zero =>
    intro d h
    cases d with
    | non => exact ⟨rfl, Nat.le_refl _⟩
    | bl => exact ⟨rfl, Nat.le_refl _⟩
    | int => exact ⟨rfl, Nat.le_refl _⟩
    | str s => exact ⟨h, Nat.le_refl _⟩
    | tup xs => cases h
    | lst xs => cases h
    | scr ns => cases h
    | dic _ _ => cases h
    | dit _ _ => cases h
  | succ n ih =>
    intro d h
    have L : ∀ xs : List D, xs.all (D.shp n) = true → PyData.canLayAll0 (D.pyL xs) = true ∧ PyData.depthAll (D.pyL xs) ≤ n := by
      intro xs
      induction xs with
      | nil => intro _; exact ⟨by simp only [D.pyL, PyData.canLayAll0], by simp only [D.pyL, PyData.depthAll]; exact Nat.zero_le _⟩
      | cons x xs ihx =>
        intro h
        rw [List.all_cons] at h
        obtain ⟨h1, h2⟩ := Bool.and_eq_true_iff.mp h
        obtain ⟨a1, a2⟩ := ih x h1
        obtain ⟨b1, b2⟩ := ihx h2
        simp only [D.pyL, PyData.canLayAll0, PyData.depthAll, a1, b1, Bool.and_self]
        exact ⟨trivial, Nat.max_le.mpr ⟨a2, b2⟩⟩
    cases d with
    | non => exact ⟨rfl, Nat.zero_le _⟩
    | bl => exact ⟨rfl, Nat.zero_le _⟩
    | int => exact ⟨rfl, Nat.zero_le _⟩
    | str s => exact ⟨h, Nat.zero_le _⟩
    | tup xs =>
      obtain ⟨a, b⟩ := L xs h
      simp only [D.py, PyData.canLay0, PyData.depth]
      exact ⟨a, Nat.succ_le_succ b⟩
    | lst xs =>
      obtain ⟨a, b⟩ := L xs h
      simp only [D.py, PyData.canLay0, PyData.depth]
      exact ⟨a, Nat.succ_le_succ b⟩
    | scr ns => cases h
    | dic _ _ => cases h
    | dit _ _ => cases h
theorem shp_shaped {n : Nat} {d : D} (hn : n ≤ 64) (h : D.shp n d = true) : SeqAt.shaped d.py = true := by
  obtain ⟨a, b⟩ := shp_ok n d h
  unfold SeqAt.shaped
  rw [a, decide_eq_true (Nat.le_trans b hn)]
  rfl
theorem eqb_py : ∀ (n m : Nat) (x y : D), D.shp n x = true → D.shp m y = true → D.eqb x y = PyData.eqv x.py y.py := by
  intro n
  induction n with
  | zero =>
    intro m x y h hy
    cases x <;> first | (cases h; done) | (cases y <;> first | (cases m <;> cases hy; done) | simp only [D.eqb, D.py, PyData.eqv])
  | succ n ih =>
    intro m x y h hy
    have L : ∀ (m : Nat) (xs : List D), xs.all (D.shp n) = true → ∀ ys : List D, ys.all (D.shp m) = true → D.eqbL xs ys = PyData.eqvAll (D.pyL xs) (D.pyL ys) := by
      intro m xs
      induction xs with
      | nil => intro _ ys _; cases ys <;> simp only [D.eqbL, D.pyL, PyData.eqvAll]
      | cons x xs ihx =>
        intro h ys hy
        rw [List.all_cons] at h
        obtain ⟨h1, h2⟩ := Bool.and_eq_true_iff.mp h
        cases ys with
        | nil => simp only [D.eqbL, D.pyL, PyData.eqvAll]
        | cons y ys =>
          rw [List.all_cons] at hy
          obtain ⟨y1, y2⟩ := Bool.and_eq_true_iff.mp hy
          simp only [D.eqbL, D.pyL, PyData.eqvAll]
          rw [ihx h2 ys y2, ih m x y h1 y1]
    cases m with
    | zero => cases x <;> first | (cases h; done) | (cases y <;> first | (cases hy; done) | (simp only [D.eqb, D.py, PyData.eqv]; done))
    | succ m => cases x <;> first | (cases h; done) | (cases y <;> first | (cases hy; done) | (simp only [D.eqb, D.py, PyData.eqv]; done) | (simp only [D.eqb, D.py, PyData.eqv]; exact L m _ h _ hy))
section
variable {K : PySem.W.Frag} {F H : Hp}
theorem shp_tup {n : Nat} {xs : List D} (h : D.shp n (.tup xs) = true) : ∃ m, xs.all (D.shp m) = true := by
  cases n with
  | zero => cases h
  | succ m => exact ⟨m, h⟩
theorem shp_lst {n : Nat} {xs : List D} (h : D.shp n (.lst xs) = true) : ∃ m, xs.all (D.shp m) = true := by
  cases n with
  | zero => cases h
  | succ m => exact ⟨m, h⟩
mutual
theorem dp_of (s : Same F H) : ∀ {v : V} {d : D} {n : Nat}, Rep K F v d → D.shp n d = true → Dp K H v d.py
  | _, _, _, .non, _ => .non
  | _, _, _, .bl b, _ => .bl b
  | _, _, _, .int i, _ => .int i
  | _, _, _, .str x, _ => .str x
  | _, _, n, .scr (ns := ns) h, z => by cases n <;> cases z
  | _, _, _, .ob h r, z => dp_ob s (s _ _ h) r z
theorem dp_ob (s : Same F H) : ∀ {a : Addr} {o : HO} {d : D} {n : Nat}, H a = some o → ObF K F o d → D.shp n d = true → Dp K H (.ref a) d.py
  | _, _, _, _, h, .tup r, z => by
    obtain ⟨m, z⟩ := shp_tup z
    exact .tup (.of h) (dpl_of s r z)
  | _, _, _, _, h, .lst r, z => by
    obtain ⟨m, z⟩ := shp_lst z
    exact .lst (.of h) (dpl_of s r z)
  | _, _, _, n, h, .dic _ _ _, z => by cases n <;> cases z
  | _, _, _, n, h, .dit _ _ _, z => by cases n <;> cases z
theorem dpl_of (s : Same F H) : ∀ {vs : List V} {ds : List D} {n : Nat}, RepL K F vs ds → ds.all (D.shp n) = true → DpAll K H vs (D.pyL ds)
  | _, _, _, .nil, _ => .nil
  | _, _, _, .cons h r, z => by
    rw [List.all_cons] at z
    obtain ⟨z1, z2⟩ := Bool.and_eq_true_iff.mp z
    exact .cons (dp_of s h z1) (dpl_of s r z2)
end
theorem dp_B (s : Same F H) {n : Nat} {v : V} {d : D} (r : RepB K F H v d) (z : D.shp n d = true) : Dp K H v d.py := by
  rcases r with r | ⟨_, a, o, rfl, h, q⟩
  · exact dp_of s r z
  · cases q with
    | lst r => exact dp_ob s h (.lst r) z
    | dic _ _ _ => cases n <;> cases z
    | dit _ _ _ => cases n <;> cases z
end
def dEq (x y : D) : Option D := if D.shp 8 x && D.shp 8 y then some (.bl (D.eqb x y)) else none
def dNe (x y : D) : Option D := if D.shp 8 x && D.shp 8 y then some (.bl (!D.eqb x y)) else none
section
variable {K : PySem.W.Frag}
theorem d_eq : Op2 K dEq (rEqD K) := by
  intro F H x y dx dy d Q s rx ry e q
  obtain ⟨c, rfl⟩ := ite_some e
  obtain ⟨c1, c2⟩ := Bool.and_eq_true_iff.mp c
  refine ⟨dx.py, dy.py, dp_B s rx c1, dp_B s ry c2, shp_shaped (by decide) c1, shp_shaped (by decide) c2, ?_⟩
  rw [← eqb_py 8 8 dx dy c1 c2]
  exact q _ H F (.refl s) (.bl _)
theorem d_ne : Op2 K dNe (rNeD K) := by
  intro F H x y dx dy d Q s rx ry e q
  obtain ⟨c, rfl⟩ := ite_some e
  obtain ⟨c1, c2⟩ := Bool.and_eq_true_iff.mp c
  refine ⟨dx.py, dy.py, dp_B s rx c1, dp_B s ry c2, shp_shaped (by decide) c1, shp_shaped (by decide) c2, ?_⟩
  rw [← eqb_py 8 8 dx dy c1 c2]
  exact q _ H F (.refl s) (.bl _)
/-! ### is, is not -/
def D.isN : D → Bool
  | .non => true
  | _ => false
def dIs : D → D → Option D
  | x, .non => some (.bl x.isN)
  | .bl a, .bl b => some (.bl (decide (a = b)))
  | _, _ => none
def dIsNot : D → D → Option D
  | x, .non => some (.bl (!x.isN))
  | .bl a, .bl b => some (.bl (!decide (a = b)))
  | _, _ => none
def rIsA : R2 := fun x y H Q => (y = .non ∧ Q (.bl (decide (x = .non))) H) ∨ rIsB x y H Q
def rIsNotA : R2 := fun x y H Q => (y = .non ∧ Q (.bl (!decide (x = .non))) H) ∨ rNotB x y H Q
theorem op_isA {X : Cx} : OpR X (compareOp .Is) rIsA := op_isN.or op_isBl
theorem op_isNotA {X : Cx} : OpR X (compareOp .IsNot) rIsNotA := op_notN.or op_notBl
theorem repB_none {F H : Hp} {v : V} {d : D} (r : RepB K F H v d) : decide (v = .non) = d.isN := by
  rcases r with r | ⟨m, a, o, rfl, h, q⟩
  · cases r with
    | ob h q => cases q <;> rfl
    | _ => rfl
  · cases q <;> rfl
/-- is True, is False: of a value that is a bool, None, an int, a text; an answer for the others lacks -/
theorem d_is : Op2 K dIs rIsA := by
  intro F H x y dx dy d Q s rx ry e q
  unfold dIs at e
  split at e
  · cases e
    refine .inl ⟨ry.non, ?_⟩
    rw [repB_none rx]
    exact q _ H F (.refl s) (.bl _)
  · cases e
    exact .inr ⟨_, _, rx.bl, ry.bl, q _ H F (.refl s) (.bl _)⟩
  · cases e
theorem d_isnot : Op2 K dIsNot rIsNotA := by
  intro F H x y dx dy d Q s rx ry e q
  unfold dIsNot at e
  split at e
  · cases e
    refine .inl ⟨ry.non, ?_⟩
    rw [repB_none rx]
    exact q _ H F (.refl s) (.bl _)
  · cases e
    exact .inr ⟨_, _, rx.bl, ry.bl, q _ H F (.refl s) (.bl _)⟩
  · cases e
end

/-! ### truth, tests -/
def truth : D → Option Bool
  | .non => some false
  | .bl b => some b
  | .int i => some (i != 0)
  | .str s => if s.length ≤ LIM then some ((s.length : Int) != 0) else none
  | .tup xs => some !xs.isEmpty
  | .lst xs => some !xs.isEmpty
  | .scr ns => some !ns.isEmpty
  | _ => none
abbrev MT := En → Option Bool
def mTru (m : ME) : MT := fun Γ => (m Γ).bind truth
def dB : D → Option Bool
  | .bl b => some b
  | _ => none
def mTB (m : ME) : MT := fun Γ => (m Γ).bind dB
def mAnd (a b : ME) : ME := fun Γ => (a Γ).bind fun x => (truth x).bind fun t => if t then b Γ else some x
def mOr (a b : ME) : ME := fun Γ => (a Γ).bind fun x => (truth x).bind fun t => if t then some x else b Γ
def mtAnd (a b : MT) : MT := fun Γ => (a Γ).bind fun t => if t then b Γ else some false
def mtOr (a b : MT) : MT := fun Γ => (a Γ).bind fun t => if t then some true else b Γ
def mtNot (a : MT) : MT := fun Γ => (a Γ).bind fun t => some (!t)
def mNot (a : ME) : ME := fun Γ => (a Γ).bind fun x => (truth x).bind fun t => some (.bl (!t))
def mIf (c : MT) (a b : ME) : ME := fun Γ => (c Γ).bind fun t => if t then a Γ else b Γ
def mChain (f g : D → D → Option D) (a b c : ME) : ME := fun Γ => (a Γ).bind fun x => (b Γ).bind fun y => (f x y).bind fun z => (dB z).bind fun k => if k then (c Γ).bind fun w => g y w else some (.bl false)
theorem isEmpty_rep {K : PySem.W.Frag} {F : Hp} {vs : List V} {ds : List D} (r : RepL K F vs ds) : vs.isEmpty = ds.isEmpty := by
  cases r <;> rfl
theorem truth_ok {K : PySem.W.Frag} {F H : Hp} {v : V} {d : D} {b : Bool} (s : Same F H) (r : RepB K F H v d) (h : truth d = some b) : TruV K v H b := by
  cases d with
  | non => rw [r.non]; cases h; rfl
  | bl a => rw [r.bl]; cases h; rfl
  | int i => rw [r.int]; cases h; rfl
  | str x =>
    rw [r.str]
    simp only [truth] at h
    split at h
    · rename_i c
      cases h
      exact ⟨by rw [← lim_line]; exact c, rfl⟩
    · cases h
  | tup xs =>
    obtain ⟨a, vs, rfl, h1, r1⟩ := r.tup
    cases h
    exact .inr (.inl ⟨vs, .of (s _ _ h1), by rw [isEmpty_rep r1]⟩)
  | lst xs =>
    obtain ⟨a, vs, rfl, h1, r1⟩ := r.lst s
    cases h
    exact .inl ⟨vs, .of h1, by rw [isEmpty_rep r1]⟩
  | scr ns =>
    obtain ⟨a, rfl, h1⟩ := (r.full rfl).scrI
    cases h
    exact .inl ⟨_, s.seq h1, by rw [List.isEmpty_map]⟩
  | dic _ _ => cases h
  | dit _ _ => cases h
section
variable {X : Cx} {a b c : Expr} {rest : List Expr} {pos : Pos} {ma mb mc : ME} {ta tb : MT} {f g : D → D → Option D} {r r' : R2}
theorem truT {t : TE} {tt : TT} (ht : ∀ σ H Q, (t σ H fun x H' => ∃ k, TruV X.K x H' k ∧ Q k H') → tt σ H Q) (hw : ∀ σ H Q, rdB X.K ma σ H Q → t σ H Q) : ∀ σ H Q, rdT X.K (mTru ma) σ H Q → tt σ H Q := by
  intro σ H Q ⟨H0, F, Γ, k, R, z, q⟩
  obtain ⟨d, e, z⟩ := Option.bind_eq_some_iff.mp z
  exact ht _ _ _ (hw _ _ _ ⟨H0, F, Γ, d, R, e, fun v H' F' E rv => ⟨k, truth_ok E.fh rv z, q H' F' E⟩⟩)
/-- any expression whose test is its value's truth -/
theorem r_tru (ha : PE X a (rdB X.K ma)) (he : ∀ whole, isTrue a X.env whole = (do let v ← whole; standAt a.pos; holding [v] (truthy v)) := by intro _; rfl) : PT X a (rdT X.K (mTru ma)) :=
  PT.wk (pt_truth ha he) (truT (fun _ _ _ h => h) fun _ _ _ h => h)
theorem tB_of {t : TE} (ht : ∀ σ H Q, rdE X.K ma σ H Q → t σ H Q) {σ H Q} (h : rdT X.K (mTB ma) σ H Q) : tTest t σ H Q := by
  obtain ⟨H0, F, Γ, k, R, z, q⟩ := h
  obtain ⟨d, e, z⟩ := Option.bind_eq_some_iff.mp z
  refine ht _ _ _ ⟨H0, F, Γ, d, R, e, fun v H' F' E rv => ⟨k, ?_, q H' F' E⟩⟩
  unfold dB at z
  split at z
  · cases z
    exact (show RepB X.K F' H' v (.bl _) from .inl rv).bl
  · cases z
theorem r_tcmp {op : CmpOp} (ho : OpR X (compareOp op) r) (hf : Op2 X.K f r) (ha : PE X a (rdB X.K ma)) (hb : PE X b (rdB X.K mb)) (hm : behindInMarks op b = false) : PT X (.Compare a [op] [b] pos) (rdT X.K (mTB (mBin f ma mb))) :=
  PT.wk (pt_cmpR ho ha hb hm) fun _ _ _ h => tB_of (fun _ _ _ h => two hf h) h
theorem chn (hf : Op2 X.K f r) (hg : Op2 X.K g r') {σ H Q} (h : rdE X.K (mChain f g ma mb mc) σ H Q) : tChain r r' (rdB X.K ma) (rdB X.K mb) (rdB X.K mc) σ H Q := by
  obtain ⟨H0, F, Γ, d, R, z, q⟩ := h
  obtain ⟨dx, ex, z⟩ := Option.bind_eq_some_iff.mp z
  obtain ⟨dy, ey, z⟩ := Option.bind_eq_some_iff.mp z
  obtain ⟨dz, ez, z⟩ := Option.bind_eq_some_iff.mp z
  obtain ⟨k, ek, z⟩ := Option.bind_eq_some_iff.mp z
  refine ⟨H0, F, Γ, dx, R, ex, fun x H1 F1 E1 rx => ⟨H0, F1, Γ, dy, R.ext E1, ey, fun y H2 F2 E2 ry => hf F2 H2 x y dx dy dz _ E2.fh (rx.ext E2) ry ez fun v H3 F3 E3 rv => ⟨k, ?_, ?_⟩⟩⟩
  · unfold dB at ek
    split at ek
    · cases ek
      exact (show RepB X.K F3 H3 v (.bl _) from .inl rv).bl
    · cases ek
  · cases k with
    | false =>
      cases z
      exact q _ H3 F3 ((E1.trans E2).trans E3) (.bl _)
    | true =>
      obtain ⟨dw, ew, z⟩ := Option.bind_eq_some_iff.mp z
      refine iteT ⟨H0, F3, Γ, dw, ((R.ext E1).ext E2).ext E3, ew, fun w H4 F4 E4 rw' => hg F4 H4 y w dy dw d Q E4.fh ((ry.ext E3).ext E4) rw' z fun v H' F' E5 rv => q v H' F' ((((E1.trans E2).trans E3).trans E4).trans E5) rv⟩
theorem r_chain {op op' : CmpOp} (ho : OpR X (compareOp op) r) (hf : Op2 X.K f r) (ho' : OpR X (compareOp op') r') (hg : Op2 X.K g r') (ha : PE X a (rdB X.K ma)) (hb : PE X b (rdB X.K mb)) (hc : PE X c (rdB X.K mc))
    (hm : lastMarks [op, op'] [b, c] = false := by with_unfolding_all rfl) : PE X (.Compare a [op, op'] [b, c] pos) (rdE X.K (mChain f g ma mb mc)) :=
  PE.wk (pe_chain ho ho' ha hb hc hm) fun _ _ _ h => chn hf hg h
theorem r_tchain {op op' : CmpOp} (ho : OpR X (compareOp op) r) (hf : Op2 X.K f r) (ho' : OpR X (compareOp op') r') (hg : Op2 X.K g r') (ha : PE X a (rdB X.K ma)) (hb : PE X b (rdB X.K mb)) (hc : PE X c (rdB X.K mc))
    (hm : lastMarks [op, op'] [b, c] = false := by with_unfolding_all rfl) : PT X (.Compare a [op, op'] [b, c] pos) (rdT X.K (mTB (mChain f g ma mb mc))) :=
  PT.wk (pt_chain ho ho' ha hb hc hm) fun _ _ _ h => tB_of (fun _ _ _ h => chn hf hg h) h
theorem r_one {op} {t : TE} (h : PE X a t) : PE X (.BoolOp op [a] pos) t := pe_one h
theorem r_and (ha : PE X a (rdE X.K ma)) (hb : PE X (.BoolOp .And (b :: rest) pos) (rdE X.K mb)) : PE X (.BoolOp .And (a :: b :: rest) pos) (rdE X.K (mAnd ma mb)) :=
  PE.wk (pe_andT ha hb) fun σ H Q ⟨H0, F, Γ, d, R, z, q⟩ => by
    obtain ⟨dx, ex, z⟩ := Option.bind_eq_some_iff.mp z
    obtain ⟨t, et, z⟩ := Option.bind_eq_some_iff.mp z
    refine ⟨H0, F, Γ, dx, R, ex, fun x H1 F1 E1 rx => ⟨t, truth_ok E1.fh (.inl rx) et, ?_⟩⟩
    cases t with
    | false => cases z; exact q x H1 F1 E1 rx
    | true => exact iteT ⟨H0, F1, Γ, d, R.ext E1, z, fun v H' F' E2 rv => q v H' F' (E1.trans E2) rv⟩
theorem r_or (ha : PE X a (rdE X.K ma)) (hb : PE X (.BoolOp .Or (b :: rest) pos) (rdE X.K mb)) : PE X (.BoolOp .Or (a :: b :: rest) pos) (rdE X.K (mOr ma mb)) :=
  PE.wk (pe_orT ha hb) fun σ H Q ⟨H0, F, Γ, d, R, z, q⟩ => by
    obtain ⟨dx, ex, z⟩ := Option.bind_eq_some_iff.mp z
    obtain ⟨t, et, z⟩ := Option.bind_eq_some_iff.mp z
    refine ⟨H0, F, Γ, dx, R, ex, fun x H1 F1 E1 rx => ⟨t, truth_ok E1.fh (.inl rx) et, ?_⟩⟩
    cases t with
    | true => cases z; exact q x H1 F1 E1 rx
    | false => exact iteF ⟨H0, F1, Γ, d, R.ext E1, z, fun v H' F' E2 rv => q v H' F' (E1.trans E2) rv⟩
theorem r_tand1 (ha : PT X a (rdT X.K ta)) : PW X (.BoolOp .And [a] pos) (rdT X.K ta) := pw_and1 ha
theorem r_tor1 (ha : PT X a (rdT X.K ta)) : PW X (.BoolOp .Or [a] pos) (rdT X.K ta) := pw_or1 ha
theorem r_tand (ha : PT X a (rdT X.K ta)) (hb : PW X (.BoolOp .And (b :: rest) pos) (rdT X.K tb)) : PW X (.BoolOp .And (a :: b :: rest) pos) (rdT X.K (mtAnd ta tb)) :=
  PW.wk (pw_and ha hb) fun σ H Q ⟨H0, F, Γ, k, R, z, q⟩ => by
    obtain ⟨t, et, z⟩ := Option.bind_eq_some_iff.mp z
    refine ⟨H0, F, Γ, t, R, et, fun H1 F1 E1 => ?_⟩
    cases t with
    | false => cases z; exact q H1 F1 E1
    | true => exact iteT ⟨H0, F1, Γ, k, R.ext E1, z, fun H' F' E2 => q H' F' (E1.trans E2)⟩
theorem r_tor (ha : PT X a (rdT X.K ta)) (hb : PW X (.BoolOp .Or (b :: rest) pos) (rdT X.K tb)) : PW X (.BoolOp .Or (a :: b :: rest) pos) (rdT X.K (mtOr ta tb)) :=
  PW.wk (pw_or ha hb) fun σ H Q ⟨H0, F, Γ, k, R, z, q⟩ => by
    obtain ⟨t, et, z⟩ := Option.bind_eq_some_iff.mp z
    refine ⟨H0, F, Γ, t, R, et, fun H1 F1 E1 => ?_⟩
    cases t with
    | true => cases z; exact q H1 F1 E1
    | false => exact iteF ⟨H0, F1, Γ, k, R.ext E1, z, fun H' F' E2 => q H' F' (E1.trans E2)⟩
theorem r_tnot (ha : PT X a (rdT X.K ta)) : PT X (.UnaryOp .Not a pos) (rdT X.K (mtNot ta)) :=
  PT.wk (pt_not ha) fun σ H Q ⟨H0, F, Γ, k, R, z, q⟩ => by
    obtain ⟨t, et, z⟩ := Option.bind_eq_some_iff.mp z
    cases z
    exact ⟨H0, F, Γ, t, R, et, fun H1 F1 E1 => q H1 F1 E1⟩
theorem r_not (ha : PE X a (rdB X.K ma)) : PE X (.UnaryOp .Not a pos) (rdE X.K (mNot ma)) :=
  PE.wk (pe_notT ha) fun σ H Q ⟨H0, F, Γ, d, R, z, q⟩ => by
    obtain ⟨dx, ex, z⟩ := Option.bind_eq_some_iff.mp z
    obtain ⟨t, et, z⟩ := Option.bind_eq_some_iff.mp z
    cases z
    exact ⟨H0, F, Γ, dx, R, ex, fun x H1 F1 E1 rx => ⟨t, truth_ok E1.fh rx et, q _ H1 F1 E1 (.bl _)⟩⟩
theorem r_ifx (hc : PT X c (rdT X.K ta)) (ha : PE X a (rdE X.K ma)) (hb : PE X b (rdE X.K mb)) : PE X (.IfExp c a b pos) (rdE X.K (mIf ta ma mb)) :=
  PE.wk (pe_ifExp hc ha hb) fun σ H Q ⟨H0, F, Γ, d, R, z, q⟩ => by
    obtain ⟨t, et, z⟩ := Option.bind_eq_some_iff.mp z
    refine ⟨H0, F, Γ, t, R, et, fun H1 F1 E1 => ?_⟩
    cases t with
    | true => exact iteT ⟨H0, F1, Γ, d, R.ext E1, z, fun v H' F' E2 rv => q v H' F' (E1.trans E2) rv⟩
    | false => exact iteF ⟨H0, F1, Γ, d, R.ext E1, z, fun v H' F' E2 rv => q v H' F' (E1.trans E2) rv⟩
/-- - x -/
def dNeg : D → Option D
  | .int i => some (.int (-i))
  | _ => none
theorem r_neg (ha : PE X a (rdB X.K ma)) : PE X (.UnaryOp .USub a pos) (rdE X.K (mUn dNeg ma)) :=
  PE.wk (pe_un un_neg ha) fun σ H Q h => one (h := rU fun i => .int (-i)) (fun F H x dx d Q s rx e q => by
    unfold dNeg at e
    split at e
    · cases e
      exact ⟨_, rx.int, q _ H F (.refl s) (.int _)⟩
    · cases e) h
end

/-! ### displays, arguments -/
def mNil : MA := fun _ => some []
def mCons (a : ME) (r : MA) : MA := fun Γ => (a Γ).bind fun x => (r Γ).bind fun xs => some (x :: xs)
def mTup (m : MA) : ME := fun Γ => (m Γ).bind fun xs => if xs.length ≤ LIM then some (.tup xs) else none
def mLst (m : MA) : ME := fun Γ => (m Γ).bind fun xs => if xs.length ≤ LIM then some (.lst xs) else none
theorem RepBL.ext {K : PySem.W.Frag} {F H F' H' : Hp} (e : Ext F H F' H') : ∀ {vs : List V} {ds : List D}, RepBL K F H vs ds → RepBL K F' H' vs ds
  | _, _, .nil => .nil
  | _, _, .cons h r => .cons (h.ext e) (RepBL.ext e r)
section
variable {X : Cx} {e : Expr} {es : List Expr} {pos : Pos} {ma : ME} {ms : MA}
theorem r_pnil : PA X [] (rdA X.K mNil) := PA.wk pa_nil fun σ H Q ⟨H0, F, Γ, ds, R, z, q⟩ => by cases z; exact q [] H F (.refl R.fh) .nil
theorem r_pcons (ha : PE X e (rdE X.K ma)) (hr : PA X es (rdA X.K ms)) (hs : starEach (e :: es) X.env = (false, eval e X.env) :: starEach es X.env := by rfl) : PA X (e :: es) (rdA X.K (mCons ma ms)) :=
  PA.wk (pa_cons ha hr hs) fun σ H Q ⟨H0, F, Γ, ds, R, z, q⟩ => by
    obtain ⟨dx, ex, z⟩ := Option.bind_eq_some_iff.mp z
    obtain ⟨dy, ey, z⟩ := Option.bind_eq_some_iff.mp z
    cases z
    exact ⟨H0, F, Γ, dx, R, ex, fun x H1 F1 E1 rx => ⟨H0, F1, Γ, dy, R.ext E1, ey, fun y H2 F2 E2 ry => q _ H2 F2 (E1.trans E2) (.cons (rx.mono E2.f) ry)⟩⟩
theorem r_bnil : PA X [] (rdAB X.K mNil) := PA.wk pa_nil fun σ H Q ⟨H0, F, Γ, ds, R, z, q⟩ => by cases z; exact q [] H F (.refl R.fh) .nil
theorem r_bcons (ha : PE X e (rdB X.K ma)) (hr : PA X es (rdAB X.K ms)) (hs : starEach (e :: es) X.env = (false, eval e X.env) :: starEach es X.env := by rfl) : PA X (e :: es) (rdAB X.K (mCons ma ms)) :=
  PA.wk (pa_cons ha hr hs) fun σ H Q ⟨H0, F, Γ, ds, R, z, q⟩ => by
    obtain ⟨dx, ex, z⟩ := Option.bind_eq_some_iff.mp z
    obtain ⟨dy, ey, z⟩ := Option.bind_eq_some_iff.mp z
    cases z
    exact ⟨H0, F, Γ, dx, R, ex, fun x H1 F1 E1 rx => ⟨H0, F1, Γ, dy, R.ext E1, ey, fun y H2 F2 E2 ry => q _ H2 F2 (E1.trans E2) (.cons (rx.ext E2) ry)⟩⟩
theorem r_tup {k} (h : PA X es (rdA X.K ms)) : PE X (.Tuple es k pos) (rdE X.K (mTup ms)) :=
  PE.wk (pe_tup h) fun σ H Q ⟨H0, F, Γ, d, R, z, q⟩ => by
    obtain ⟨ds, es, z⟩ := Option.bind_eq_some_iff.mp z
    obtain ⟨c, rfl⟩ := if_some z
    refine ⟨H0, F, Γ, ds, R, es, fun vs H1 F1 E1 r => ⟨by rw [← lim_line, r.length]; exact c, fun p np => ?_⟩⟩
    have E := Ext.laid E1.fh (o := .tup vs) np
    exact q _ _ _ (E1.trans E) (.ob upd_same (.tup (r.mono E.f)))
theorem r_lstN (h : PA X es (rdA X.K ms)) : PE X (.List es pos) (rdN X.K (mLst ms)) :=
  PE.wk (pe_lst h) fun σ H Q ⟨H0, F, Γ, d, R, z, q⟩ => by
    obtain ⟨ds, es, z⟩ := Option.bind_eq_some_iff.mp z
    obtain ⟨c, rfl⟩ := if_some z
    refine ⟨H0, F, Γ, ds, R, es, fun vs H1 F1 E1 r => ⟨by rw [← lim_line, r.length]; exact c, fun p np => ?_⟩⟩
    exact q p _ _ F1 (E1.trans (Ext.own E1.fh np)) (E1.h.free np) (E1.fh.free np) upd_same rfl (.lst r)
end

/-! ### subscripts -/
def dIx : D → D → Option D
  | .tup xs, .int i => atI xs i
  | .lst xs, .int i => atI xs i
  | .str s, .int i => if s.length ≤ LIM then (atI s.cps.toList i).map fun c => .str ⟨#[c]⟩ else none
  | .scr ns, .int i => (atI ns i).map .int
  | _, _ => none
theorem ixN_len {n m : Nat} (h : n = m) {i : Int} : ixN n i = ixN m i := by rw [h]
theorem atI_rep {K : PySem.W.Frag} {F : Hp} {vs : List V} {ds : List D} {i : Int} {d : D} (r : RepL K F vs ds) (h : atI ds i = some d) : ∃ v, atI vs i = some v ∧ Rep K F v d := by
  unfold atI at h
  obtain ⟨j, e, h⟩ := Option.bind_eq_some_iff.mp h
  obtain ⟨v, h1, h2⟩ := r.get h
  refine ⟨v, ?_, h2⟩
  unfold atI
  rw [r.length, e]
  exact h1
theorem atI_map {α β : Type} (f : α → β) (xs : List α) (i : Int) : atI (xs.map f) i = (atI xs i).map f := by
  unfold atI
  rw [List.length_map]
  cases ixN xs.length i with
  | none => rfl
  | some j => exact List.getElem?_map
section
variable {K : PySem.W.Frag}
theorem d_ix : Op2 K dIx (rIx K) := by
  intro F H x y dx dy d Q s rx ry e q
  unfold dIx at e
  split at e
  · obtain ⟨a, vs, rfl, h1, r1⟩ := rx.tup
    obtain ⟨v, h2, h3⟩ := atI_rep r1 e
    exact .inr (.inl ⟨a, vs, _, v, rfl, ry.int, .of (s _ _ h1), h2, q v H F (.refl s) h3⟩)
  · obtain ⟨a, vs, rfl, h1, r1⟩ := rx.lst s
    obtain ⟨v, h2, h3⟩ := atI_rep r1 e
    exact .inl ⟨a, vs, _, v, rfl, ry.int, .of h1, h2, q v H F (.refl s) h3⟩
  · split at e
    · rename_i c
      obtain ⟨k, h1, rfl⟩ := Option.map_eq_some_iff.mp e
      exact .inr (.inr ⟨_, _, k, rx.str, ry.int, by rw [← lim_line]; exact c, h1, q _ H F (.refl s) (.str _)⟩)
    · cases e
  · obtain ⟨a, rfl, h1⟩ := (rx.full rfl).scrI
    obtain ⟨k, h2, rfl⟩ := Option.map_eq_some_iff.mp e
    exact .inl ⟨a, _, _, .int k, rfl, ry.int, s.seq h1, by rw [atI_map, h2]; rfl, q _ H F (.refl s) (.int _)⟩
  · cases e
end
section
variable {X : Cx} {a b : Expr} {pos : Pos} {ma mb : ME}
theorem r_ix (ha : PE X a (rdB X.K ma)) (hb : PE X b (rdB X.K mb)) (hs : PlainIx b := by exact fun _ _ => rfl) : PE X (.Subscript a b pos) (rdE X.K (mBin dIx ma mb)) :=
  PE.wk (pe_ix ix_seq ha hb hs) fun _ _ _ h => two d_ix h
end
/-! ### slices -/
abbrev MO := En → Option (Option Int)
def rdO (K : PySem.W.Frag) (m : MO) : TO := fun σ H Q => ∃ H0 F Γ o, Rel K H0 F H σ Γ ∧ m Γ = some o ∧ ∀ H' F', Ext F H F' H' → Q o H'
def mONone : MO := fun _ => some none
def dInt : D → Option (Option Int)
  | .int i => some (some i)
  | _ => none
def mOSome (a : ME) : MO := fun Γ => (a Γ).bind dInt
/-- the items of xs[lo:hi] -/
def cutD (xs : List D) (lo hi : Option Int) : List D := (xs.drop (HT.sIx xs.length 0 lo)).take (HT.sIx xs.length xs.length hi - HT.sIx xs.length 0 lo)
def dSl : D → Option Int → Option Int → Option D
  | .tup xs, lo, hi => some (.tup (cutD xs lo hi))
  | .lst xs, lo, hi => some (.lst (cutD xs lo hi))
  | _, _, _ => none
def dSlL : D → Option Int → Option Int → Option D
  | .lst xs, lo, hi => some (.lst (cutD xs lo hi))
  | _, _, _ => none
def mSl (a : ME) (l h : MO) : ME := fun Γ => (a Γ).bind fun x => (l Γ).bind fun lo => (h Γ).bind fun hi => dSl x lo hi
def mSlL (a : ME) (l h : MO) : ME := fun Γ => (a Γ).bind fun x => (l Γ).bind fun lo => (h Γ).bind fun hi => dSlL x lo hi
theorem cut_rep {K : PySem.W.Frag} {F : Hp} {vs : List V} {ds : List D} (r : RepL K F vs ds) (lo hi : Option Int) : RepL K F (cutV vs lo hi) (cutD ds lo hi) := by
  unfold cutV cutD
  rw [r.length]
  exact (r.drop _).take _
section
variable {X : Cx} {a : Expr} {lo hi : Option Expr} {e : Expr} {pos p2 : Pos} {ma : ME} {ml mh : MO}
theorem r_ono : PO X none (rdO X.K mONone) := ⟨fun pins s σ H Q I ⟨H0, F, Γ, o, R, z, q⟩ => po_none.run pins s σ H Q I (by cases z; exact q H F (.refl R.fh))⟩
theorem r_oso (h : PE X e (rdB X.K ma)) : PO X (some e) (rdO X.K (mOSome ma)) := ⟨fun pins s σ H Q I ⟨H0, F, Γ, o, R, z, q⟩ => (po_some h).run pins s σ H Q I (by
  obtain ⟨d, ed, z⟩ := Option.bind_eq_some_iff.mp z
  refine ⟨H0, F, Γ, d, R, ed, fun v H' F' E rv => ?_⟩
  unfold dInt at z
  split at z
  · cases z
    exact ⟨_, rv.int, q H' F' E⟩
  · cases z)⟩
def rSlB (K : PySem.W.Frag) : V → Option Int → Option Int → Hp → VK → Prop := fun x lo hi H Q => rSlL K x lo hi H Q ∨ rSlA K x lo hi H Q
theorem r_sl (ha : PE X a (rdB X.K ma)) (hl : PO X lo (rdO X.K ml)) (hh : PO X hi (rdO X.K mh)) : PE X (.Subscript a (.Slice lo hi none p2) pos) (rdE X.K (mSl ma ml mh)) :=
  PE.wk (pe_slice (r := rSlB X.K) (sl_list.or sl_tupA) ha hl hh) fun σ H Q ⟨H0, F, Γ, d, R, z, q⟩ => by
    obtain ⟨dx, ex, z⟩ := Option.bind_eq_some_iff.mp z
    obtain ⟨dl, el, z⟩ := Option.bind_eq_some_iff.mp z
    obtain ⟨dh, eh, z⟩ := Option.bind_eq_some_iff.mp z
    refine ⟨H0, F, Γ, dx, R, ex, fun x H1 F1 E1 rx => ⟨H0, F1, Γ, dl, R.ext E1, el, fun H2 F2 E2 => ⟨H0, F2, Γ, dh, (R.ext E1).ext E2, eh, fun H3 F3 E3 => ?_⟩⟩⟩
    have E := (E1.trans E2).trans E3
    have rx3 := (rx.ext E2).ext E3
    unfold dSl at z
    split at z
    · cases z
      obtain ⟨p, vs, rfl, h1, r1⟩ := rx3.tup
      refine .inr ⟨p, vs, rfl, .of (E3.fh _ _ h1), fun w => ?_, fun w t nt => ?_⟩
      · refine q _ H3 F3 E (.ob h1 (.tup ?_))
        have c := cut_rep r1 dl dh
        have e : cutV vs dl dh = vs := by
          unfold cutV
          rw [w.1, w.2, List.drop_zero, Nat.sub_zero, List.take_length]
        rw [e] at c
        exact c
      · have E4 := Ext.laid E3.fh (o := .tup (cutV vs dl dh)) nt
        exact q _ _ _ (E.trans E4) (.ob upd_same (.tup ((cut_rep r1 dl dh).mono E4.f)))
    · cases z
      obtain ⟨p, vs, rfl, h1, r1⟩ := rx3.lst E3.fh
      refine .inl ⟨p, vs, rfl, .of h1, fun t nt => ?_⟩
      have E4 := Ext.laid E3.fh (o := .lst (cutV vs dl dh)) nt
      exact q _ _ _ (E.trans E4) (.ob upd_same (.lst ((cut_rep r1 dl dh).mono E4.f)))
    · cases z
theorem r_slN (ha : PE X a (rdB X.K ma)) (hl : PO X lo (rdO X.K ml)) (hh : PO X hi (rdO X.K mh)) : PE X (.Subscript a (.Slice lo hi none p2) pos) (rdN X.K (mSlL ma ml mh)) :=
  PE.wk (pe_slice sl_list ha hl hh) fun σ H Q ⟨H0, F, Γ, d, R, z, q⟩ => by
    obtain ⟨dx, ex, z⟩ := Option.bind_eq_some_iff.mp z
    obtain ⟨dl, el, z⟩ := Option.bind_eq_some_iff.mp z
    obtain ⟨dh, eh, z⟩ := Option.bind_eq_some_iff.mp z
    refine ⟨H0, F, Γ, dx, R, ex, fun x H1 F1 E1 rx => ⟨H0, F1, Γ, dl, R.ext E1, el, fun H2 F2 E2 => ⟨H0, F2, Γ, dh, (R.ext E1).ext E2, eh, fun H3 F3 E3 => ?_⟩⟩⟩
    have E := (E1.trans E2).trans E3
    have rx3 := (rx.ext E2).ext E3
    unfold dSlL at z
    split at z
    · cases z
      obtain ⟨p, vs, rfl, h1, r1⟩ := rx3.lst E3.fh
      refine ⟨p, vs, rfl, .of h1, fun t nt => ?_⟩
      exact q t _ _ F3 (E.trans (Ext.own E3.fh nt)) (E.h.free nt) (E3.fh.free nt) upd_same rfl (.lst (cut_rep r1 dl dh))
    · cases z
/-- xs[::-1] of a list -/
def dRevL : D → Option D
  | .lst xs => some (.lst xs.reverse)
  | _ => none
theorem r_revN {k : Nat} {p1 p3 : Pos} (ha : PE X a (rdB X.K ma)) : PE X (.Subscript a (.Slice none none (some (.UnaryOp .USub (.Constant (.int 1) k p1) p2)) p3) pos) (rdN X.K (mUn dRevL ma)) :=
  PE.wk (pe_revL ha) fun σ H Q h => oneN (h := fun x H1 Q => ∃ a xs, x = V.ref a ∧ SqL X.K H1 a xs ∧ ∀ p, H1 p = none → Q (.ref p) (upd H1 p (.lst xs.reverse))) (fun F H x dx d Q s rx e q => by
    unfold dRevL at e
    split at e
    · cases e
      obtain ⟨p, vs, rfl, h1, r1⟩ := rx.lst s
      refine ⟨p, vs, rfl, .of h1, fun t nt => ?_⟩
      exact q t _ _ F (Ext.own s nt) nt (s.free nt) upd_same rfl (.lst r1.reverse)
    · cases e) h
end
end SK

set_option Elab.async false
set_option linter.all false
set_option maxRecDepth 100000
set_option maxHeartbeats 4000000
set_option autoImplicit false
namespace SK
open PySem PySem.Spec PyProof.Rows L2

/-! ### what comes to a slot -/
def SlotNew (K : PySem.W.Frag) (H F' H' : Hp) (v : V) : Slot → Prop
  | .emp => False
  | .val d => Rep K F' v d
  | .own d => d.isM = true ∧ ∃ a o, v = .ref a ∧ H a = none ∧ F' a = none ∧ H' a = some o ∧ ObR K F' o d
abbrev MX := En → Option Slot
def rdX (K : PySem.W.Frag) (m : MX) : TE := fun σ H Q => ∃ H0 F Γ s, Rel K H0 F H σ Γ ∧ m Γ = some s ∧ ∀ v H' F', Ext F H F' H' → SlotNew K H F' H' v s → Q v H'
def xV (m : ME) : MX := fun Γ => (m Γ).map .val
def xO (m : ME) : MX := fun Γ => (m Γ).map .own
section
variable {X : Cx} {e : Expr} {m : ME}
theorem toV (h : PE X e (rdE X.K m)) : PE X e (rdX X.K (xV m)) := PE.wk h fun σ H Q ⟨H0, F, Γ, s, R, z, q⟩ => by
  obtain ⟨d, e, rfl⟩ := Option.map_eq_some_iff.mp z
  exact ⟨H0, F, Γ, d, R, e, fun v H' F' E r => q v H' F' E r⟩
theorem toO (h : PE X e (rdN X.K m)) : PE X e (rdX X.K (xO m)) := PE.wk h fun σ H Q ⟨H0, F, Γ, s, R, z, q⟩ => by
  obtain ⟨d, e, rfl⟩ := Option.map_eq_some_iff.mp z
  exact ⟨H0, F, Γ, d, R, e, fun a o H' F' E n fa ha m r => q _ H' F' E ⟨m, a, o, rfl, n, fa, ha, r⟩⟩
end
theorem Rel.setX {K : PySem.W.Frag} {H0 F H F' H' : Hp} {σ : L2.St} {Γ : En} (R : Rel K H0 F H σ Γ) (E : Ext F H F' H') {v : V} {s : Slot} (h : SlotNew K H F' H' v s) (i : Nat) : Rel K H0 F' H' (σ.set i (some v)) (Γ.set i s) := by
  cases s with
  | emp => exact h.elim
  | val d => exact (R.ext E).setVal i h
  | own d =>
    obtain ⟨m, a, o, rfl, n, fa, ha, r⟩ := h
    exact (R.ext E).setOwn i m fa (R.h0.free n) ha r (R.newOff n)

/-! ### calls of built-ins -/
def mCall (f : List D → Option D) (ms : MA) : ME := fun Γ => (ms Γ).bind f
def Fn1 (K : PySem.W.Frag) (f : List D → Option D) (r : List V → Hp → VK → Prop) : Prop :=
  ∀ F H vs ds d Q, Same F H → RepBL K F H vs ds → f ds = some d → (∀ v H' F', Ext F H F' H' → Rep K F' v d → Q v H') → r vs H Q
def Fn1N (K : PySem.W.Frag) (f : List D → Option D) (r : List V → Hp → VK → Prop) : Prop :=
  ∀ F H vs ds d Q, Same F H → RepBL K F H vs ds → f ds = some d → (∀ a o H' F', Ext F H F' H' → H a = none → F' a = none → H' a = some o → d.isM = true → ObR K F' o d → Q (.ref a) H') → r vs H Q
section
variable {X : Cx} {x : Str} {p pos : Pos} {e : Expr} {es : List Expr} {ms : MA} {id T : String} {f : List D → Option D} {r : List V → Hp → VK → Prop}
theorem r_callB (hc : CallR X (.builtin id) r) (hf : Fn1 X.K f r) (hg : Gl X x) (hm : X.mg x = none) (hv : bootBuiltins x = some (.builtin id)) (ha : PA X (e :: es) (rdAB X.K ms)) (hn : x ≠ "__name__" := by decide) (hdb : (x == ("__debug__" : Str)) = false := by decide)
    (he : starEach (e :: es) X.env = (false, eval e X.env) :: starEach es X.env := by rfl) (hpl : (backTo pos (starEach es X.env)).any (·.1) = false := by rfl) : PE X (.Call (.Name x p) (e :: es) [] pos) (rdE X.K (mCall f ms)) :=
  PE.wk (pe_callB hc hg hm hv ha hn hdb he hpl) fun σ H Q ⟨H0, F, Γ, d, R, z, q⟩ => by
    obtain ⟨ds, ed, z⟩ := Option.bind_eq_some_iff.mp z
    exact ⟨H0, F, Γ, ds, R, ed, fun vs H1 F1 E1 r1 => hf F1 H1 vs ds d Q E1.fh r1 z fun v H' F' E2 rv => q v H' F' (E1.trans E2) rv⟩
theorem r_callBN (hc : CallR X (.builtin id) r) (hf : Fn1N X.K f r) (hg : Gl X x) (hm : X.mg x = none) (hv : bootBuiltins x = some (.builtin id)) (ha : PA X (e :: es) (rdAB X.K ms)) (hn : x ≠ "__name__" := by decide) (hdb : (x == ("__debug__" : Str)) = false := by decide)
    (he : starEach (e :: es) X.env = (false, eval e X.env) :: starEach es X.env := by rfl) (hpl : (backTo pos (starEach es X.env)).any (·.1) = false := by rfl) : PE X (.Call (.Name x p) (e :: es) [] pos) (rdN X.K (mCall f ms)) :=
  PE.wk (pe_callB hc hg hm hv ha hn hdb he hpl) fun σ H Q ⟨H0, F, Γ, d, R, z, q⟩ => by
    obtain ⟨ds, ed, z⟩ := Option.bind_eq_some_iff.mp z
    exact ⟨H0, F, Γ, ds, R, ed, fun vs H1 F1 E1 r1 => hf F1 H1 vs ds d Q E1.fh r1 z fun a o H' F' E2 n => q a o H' F' (E1.trans E2) (E1.h.free n)⟩
theorem r_callT (hc : CallR X (.type T) r) (hf : Fn1 X.K f r) (hg : Gl X x) (hm : X.mg x = none) (hv : bootBuiltins x = some (.type T)) (ha : PA X (e :: es) (rdAB X.K ms)) (hn : x ≠ "__name__" := by decide) (hdb : (x == ("__debug__" : Str)) = false := by decide)
    (he : starEach (e :: es) X.env = (false, eval e X.env) :: starEach es X.env := by rfl) (hpl : (backTo pos (starEach es X.env)).any (·.1) = false := by rfl) : PE X (.Call (.Name x p) (e :: es) [] pos) (rdE X.K (mCall f ms)) :=
  PE.wk (pe_callTy hc hg hm hv ha hn hdb he hpl) fun σ H Q ⟨H0, F, Γ, d, R, z, q⟩ => by
    obtain ⟨ds, ed, z⟩ := Option.bind_eq_some_iff.mp z
    exact ⟨H0, F, Γ, ds, R, ed, fun vs H1 F1 E1 r1 => hf F1 H1 vs ds d Q E1.fh r1 z fun v H' F' E2 rv => q v H' F' (E1.trans E2) rv⟩
theorem r_callTN (hc : CallR X (.type T) r) (hf : Fn1N X.K f r) (hg : Gl X x) (hm : X.mg x = none) (hv : bootBuiltins x = some (.type T)) (ha : PA X (e :: es) (rdAB X.K ms)) (hn : x ≠ "__name__" := by decide) (hdb : (x == ("__debug__" : Str)) = false := by decide)
    (he : starEach (e :: es) X.env = (false, eval e X.env) :: starEach es X.env := by rfl) (hpl : (backTo pos (starEach es X.env)).any (·.1) = false := by rfl) : PE X (.Call (.Name x p) (e :: es) [] pos) (rdN X.K (mCall f ms)) :=
  PE.wk (pe_callTy hc hg hm hv ha hn hdb he hpl) fun σ H Q ⟨H0, F, Γ, d, R, z, q⟩ => by
    obtain ⟨ds, ed, z⟩ := Option.bind_eq_some_iff.mp z
    exact ⟨H0, F, Γ, ds, R, ed, fun vs H1 F1 E1 r1 => hf F1 H1 vs ds d Q E1.fh r1 z fun a o H' F' E2 n => q a o H' F' (E1.trans E2) (E1.h.free n)⟩
end
section
variable {K : PySem.W.Frag} {F H : Hp}
theorem bl1 {vs : List V} {d : D} (r : RepBL K F H vs [d]) : ∃ v, vs = [v] ∧ RepB K F H v d := by
  cases r with | cons h r => cases r; exact ⟨_, rfl, h⟩
theorem bl2 {vs : List V} {d e : D} (r : RepBL K F H vs [d, e]) : ∃ v w, vs = [v, w] ∧ RepB K F H v d ∧ RepB K F H w e := by
  cases r with | cons h r => cases r with | cons h2 r => cases r; exact ⟨_, _, rfl, h, h2⟩
def dLen : List D → Option D
  | [.tup xs] => some (.int xs.length)
  | [.lst xs] => some (.int xs.length)
  | [.scr ns] => some (.int ns.length)
  | [.str s] => if s.length ≤ LIM then some (.int s.length) else none
  | _ => none
def rLenV (K : PySem.W.Frag) : List V → Hp → VK → Prop := fun xs H Q => ∃ x n, xs = [x] ∧ LenV K x H n ∧ Q (.int n) H
theorem d_len : Fn1 K dLen (rLenV K) := by
  intro F H vs ds d Q s r e q
  unfold dLen at e
  split at e
  · cases e
    obtain ⟨v, rfl, rr⟩ := bl1 r
    obtain ⟨a, ws, rfl, h1, r1⟩ := rr.tup
    exact ⟨_, _, rfl, .inr ⟨ws, .of (s _ _ h1), r1.length.symm⟩, q _ H F (.refl s) (.int _)⟩
  · cases e
    obtain ⟨v, rfl, rr⟩ := bl1 r
    obtain ⟨a, ws, rfl, h1, r1⟩ := rr.lst s
    exact ⟨_, _, rfl, .inl ⟨ws, .of h1, r1.length.symm⟩, q _ H F (.refl s) (.int _)⟩
  · cases e
    obtain ⟨v, rfl, rr⟩ := bl1 r
    obtain ⟨a, rfl, h1⟩ := (rr.full rfl).scrI
    exact ⟨_, _, rfl, .inl ⟨_, s.seq h1, (List.length_map ..).symm⟩, q _ H F (.refl s) (.int _)⟩
  · split at e
    · rename_i c
      cases e
      obtain ⟨v, rfl, rr⟩ := bl1 r
      exact ⟨_, _, rfl, (by rw [rr.str]; exact ⟨by rw [← lim_line]; exact c, rfl⟩), q _ H F (.refl s) (.int _)⟩
    · cases e
  · cases e
def dAbs : List D → Option D
  | [.int i] => some (.int (if i < 0 then -i else i))
  | _ => none
theorem d_abs : Fn1 K dAbs (fun xs H Q => ∃ i, xs = [.int i] ∧ Q (.int (if i < 0 then -i else i)) H) := by
  intro F H vs ds d Q s r e q
  unfold dAbs at e
  split at e
  · cases e
    obtain ⟨v, rfl, rr⟩ := bl1 r
    exact ⟨_, (by rw [rr.int]), q _ H F (.refl s) (.int _)⟩
  · cases e
def dMax2 : List D → Option D
  | [.int i, .int j] => some (.int (if j > i then j else i))
  | _ => none
theorem d_max2 : Fn1 K dMax2 (fun xs H Q => ∃ i j, xs = [.int i, .int j] ∧ Q (.int (if j > i then j else i)) H) := by
  intro F H vs ds d Q s r e q
  unfold dMax2 at e
  split at e
  · cases e
    obtain ⟨v, w, rfl, r1, r2⟩ := bl2 r
    exact ⟨_, _, (by rw [r1.int, r2.int]), q _ H F (.refl s) (.int _)⟩
  · cases e
def dMin2 : List D → Option D
  | [.int i, .int j] => some (.int (if j < i then j else i))
  | _ => none
theorem d_min2 : Fn1 K dMin2 (fun xs H Q => ∃ i j, xs = [.int i, .int j] ∧ Q (.int (if j < i then j else i)) H) := by
  intro F H vs ds d Q s r e q
  unfold dMin2 at e
  split at e
  · cases e
    obtain ⟨v, w, rfl, r1, r2⟩ := bl2 r
    exact ⟨_, _, (by rw [r1.int, r2.int]), q _ H F (.refl s) (.int _)⟩
  · cases e
def dInt1 : List D → Option D
  | [.int i] => some (.int i)
  | [.bl k] => some (.int (if k then 1 else 0))
  | _ => none
theorem d_int1 : Fn1 K dInt1 (fun xs H Q => (∃ i, xs = [.int i] ∧ Q (.int i) H) ∨ ∃ k, xs = [.bl k] ∧ Q (.int (if k then 1 else 0)) H) := by
  intro F H vs ds d Q s r e q
  unfold dInt1 at e
  split at e
  · cases e
    obtain ⟨v, rfl, rr⟩ := bl1 r
    exact .inl ⟨_, (by rw [rr.int]), q _ H F (.refl s) (.int _)⟩
  · cases e
    obtain ⟨v, rfl, rr⟩ := bl1 r
    exact .inr ⟨_, (by rw [rr.bl]), q _ H F (.refl s) (.int _)⟩
  · cases e
/-! lists of ints, of bools -/
def intsOf : List D → Option (List Int)
  | [] => some []
  | .int i :: r => (intsOf r).map (i :: ·)
  | _ => none
def blsOf : List D → Option (List Bool)
  | [] => some []
  | .bl i :: r => (blsOf r).map (i :: ·)
  | _ => none
theorem Rep.intI {v : V} {i : Int} (r : Rep K F v (.int i)) : v = .int i := (show RepB K F F v (.int i) from .inl r).int
theorem Rep.blI {v : V} {i : Bool} (r : Rep K F v (.bl i)) : v = .bl i := (show RepB K F F v (.bl i) from .inl r).bl
theorem ints_rep : ∀ {ds : List D} {vs : List V} {ns : List Int}, intsOf ds = some ns → RepL K F vs ds → vs = ns.map V.int
  | [], _, _, e, r => by cases e; cases r; rfl
  | .int i :: ds, _, _, e, r => by
    obtain ⟨ms, e1, rfl⟩ := Option.map_eq_some_iff.mp e
    cases r with
    | cons h r => rw [h.intI, ints_rep e1 r]; rfl
  | .non :: _, _, _, e, _ => by cases e
  | .bl _ :: _, _, _, e, _ => by cases e
  | .str _ :: _, _, _, e, _ => by cases e
  | .tup _ :: _, _, _, e, _ => by cases e
  | .lst _ :: _, _, _, e, _ => by cases e
  | .scr _ :: _, _, _, e, _ => by cases e
theorem bls_rep : ∀ {ds : List D} {vs : List V} {ns : List Bool}, blsOf ds = some ns → RepL K F vs ds → vs = ns.map V.bl
  | [], _, _, e, r => by cases e; cases r; rfl
  | .bl i :: ds, _, _, e, r => by
    obtain ⟨ms, e1, rfl⟩ := Option.map_eq_some_iff.mp e
    cases r with
    | cons h r => rw [h.blI, bls_rep e1 r]; rfl
  | .non :: _, _, _, e, _ => by cases e
  | .int _ :: _, _, _, e, _ => by cases e
  | .str _ :: _, _, _, e, _ => by cases e
  | .tup _ :: _, _, _, e, _ => by cases e
  | .lst _ :: _, _, _, e, _ => by cases e
  | .scr _ :: _, _, _, e, _ => by cases e
theorem rep_ints : ∀ ns : List Int, RepL K F (ns.map V.int) (ns.map D.int)
  | [] => .nil
  | n :: ns => .cons (.int n) (rep_ints ns)
theorem intsOf_map : ∀ ns : List Int, intsOf (ns.map D.int) = some ns
  | [] => rfl
  | n :: ns => by simp only [List.map_cons, intsOf, intsOf_map ns, Option.map_some]
theorem blsOf_map : ∀ ns : List Bool, blsOf (ns.map D.bl) = some ns
  | [] => rfl
  | n :: ns => by simp only [List.map_cons, blsOf, blsOf_map ns, Option.map_some]
def dSum : List D → Option D
  | [.lst xs] => (intsOf xs).map fun ns => .int ns.sum
  | _ => none
theorem d_sum : Fn1 K dSum (rSum K) := by
  intro F H vs ds d Q s r e q
  unfold dSum at e
  split at e
  · obtain ⟨ns, e1, rfl⟩ := Option.map_eq_some_iff.mp e
    obtain ⟨v, rfl, rr⟩ := bl1 r
    obtain ⟨a, ws, rfl, h1, r1⟩ := rr.lst s
    rw [ints_rep e1 r1] at h1
    exact ⟨a, ns, rfl, .of h1, q _ H F (.refl s) (.int _)⟩
  · cases e
def maxI : Int → List Int → Int
  | m, [] => m
  | m, x :: xs => maxI (if m < x then x else m) xs
def minI : Int → List Int → Int
  | m, [] => m
  | m, x :: xs => minI (if x < m then x else m) xs
theorem maxI_ok : ∀ (xs : List Int) (m : Int), maxI m xs ∈ m :: xs ∧ ∀ y ∈ m :: xs, y ≤ maxI m xs
  | [], m => ⟨List.mem_cons_self, fun y h => by rw [List.mem_singleton.mp h]; exact Int.le_refl _⟩
  | x :: xs, m => by
    show maxI (if m < x then x else m) xs ∈ _ ∧ ∀ y ∈ m :: x :: xs, y ≤ maxI (if m < x then x else m) xs
    have ht : ∃ t, t = (if m < x then x else m) ∧ m ≤ t ∧ x ≤ t ∧ (t = m ∨ t = x) := by
      refine ⟨_, rfl, ?_⟩
      split <;> omega
    obtain ⟨t, e, t1, t2, t3⟩ := ht
    rw [← e]
    obtain ⟨h1, h2⟩ := maxI_ok xs t
    refine ⟨?_, fun y hy => ?_⟩
    · rcases List.mem_cons.mp h1 with h | h
      · rw [h]
        rcases t3 with rfl | rfl
        · exact List.mem_cons_self
        · exact List.mem_cons_of_mem _ List.mem_cons_self
      · exact List.mem_cons_of_mem _ (List.mem_cons_of_mem _ h)
    · have hm := h2 t List.mem_cons_self
      rcases List.mem_cons.mp hy with e | hy
      · omega
      · rcases List.mem_cons.mp hy with e | hy
        · omega
        · exact h2 y (List.mem_cons_of_mem _ hy)
theorem minI_ok : ∀ (xs : List Int) (m : Int), minI m xs ∈ m :: xs ∧ ∀ y ∈ m :: xs, minI m xs ≤ y
  | [], m => ⟨List.mem_cons_self, fun y h => by rw [List.mem_singleton.mp h]; exact Int.le_refl _⟩
  | x :: xs, m => by
    show minI (if x < m then x else m) xs ∈ _ ∧ ∀ y ∈ m :: x :: xs, minI (if x < m then x else m) xs ≤ y
    have ht : ∃ t, t = (if x < m then x else m) ∧ t ≤ m ∧ t ≤ x ∧ (t = m ∨ t = x) := by
      refine ⟨_, rfl, ?_⟩
      split <;> omega
    obtain ⟨t, e, t1, t2, t3⟩ := ht
    rw [← e]
    obtain ⟨h1, h2⟩ := minI_ok xs t
    refine ⟨?_, fun y hy => ?_⟩
    · rcases List.mem_cons.mp h1 with h | h
      · rw [h]
        rcases t3 with rfl | rfl
        · exact List.mem_cons_self
        · exact List.mem_cons_of_mem _ List.mem_cons_self
      · exact List.mem_cons_of_mem _ (List.mem_cons_of_mem _ h)
    · have hm := h2 t List.mem_cons_self
      rcases List.mem_cons.mp hy with e | hy
      · omega
      · rcases List.mem_cons.mp hy with e | hy
        · omega
        · exact h2 y (List.mem_cons_of_mem _ hy)
def dMax1 : List D → Option D
  | [.lst xs] => (intsOf xs).bind fun ns => match ns with
    | [] => none
    | n :: ms => some (.int (maxI n ms))
  | _ => none
def dMin1 : List D → Option D
  | [.lst xs] => (intsOf xs).bind fun ns => match ns with
    | [] => none
    | n :: ms => some (.int (minI n ms))
  | _ => none
theorem d_max1 : Fn1 K dMax1 (rMax K) := by
  intro F H vs ds d Q s r e q
  unfold dMax1 at e
  split at e
  · obtain ⟨ns, e1, e⟩ := Option.bind_eq_some_iff.mp e
    obtain ⟨v, rfl, rr⟩ := bl1 r
    obtain ⟨a, ws, rfl, h1, r1⟩ := rr.lst s
    rw [ints_rep e1 r1] at h1
    split at e
    · cases e
    · rename_i n ms
      cases e
      refine ⟨a, n :: ms, rfl, .of h1, Nat.zero_lt_succ _, fun m hm hy => ?_⟩
      obtain ⟨c1, c2⟩ := maxI_ok ms n
      have : m = maxI n ms := Int.le_antisymm (c2 m hm) (hy _ c1)
      rw [this]
      exact q _ H F (.refl s) (.int _)
  · cases e
theorem d_min1 : Fn1 K dMin1 (rMin K) := by
  intro F H vs ds d Q s r e q
  unfold dMin1 at e
  split at e
  · obtain ⟨ns, e1, e⟩ := Option.bind_eq_some_iff.mp e
    obtain ⟨v, rfl, rr⟩ := bl1 r
    obtain ⟨a, ws, rfl, h1, r1⟩ := rr.lst s
    rw [ints_rep e1 r1] at h1
    split at e
    · cases e
    · rename_i n ms
      cases e
      refine ⟨a, n :: ms, rfl, .of h1, Nat.zero_lt_succ _, fun m hm hy => ?_⟩
      obtain ⟨c1, c2⟩ := minI_ok ms n
      have : m = minI n ms := Int.le_antisymm (hy _ c1) (c2 m hm)
      rw [this]
      exact q _ H F (.refl s) (.int _)
  · cases e
def dAny : List D → Option D
  | [.lst xs] => (blsOf xs).map fun bs => .bl (bs.any id)
  | _ => none
def dAll : List D → Option D
  | [.lst xs] => (blsOf xs).map fun bs => .bl (bs.all id)
  | _ => none
theorem d_any : Fn1 K dAny (rAny K) := by
  intro F H vs ds d Q s r e q
  unfold dAny at e
  split at e
  · obtain ⟨ns, e1, rfl⟩ := Option.map_eq_some_iff.mp e
    obtain ⟨v, rfl, rr⟩ := bl1 r
    obtain ⟨a, ws, rfl, h1, r1⟩ := rr.lst s
    rw [bls_rep e1 r1] at h1
    exact ⟨a, ns, rfl, .of h1, q _ H F (.refl s) (.bl _)⟩
  · cases e
theorem d_all : Fn1 K dAll (rAll K) := by
  intro F H vs ds d Q s r e q
  unfold dAll at e
  split at e
  · obtain ⟨ns, e1, rfl⟩ := Option.map_eq_some_iff.mp e
    obtain ⟨v, rfl, rr⟩ := bl1 r
    obtain ⟨a, ws, rfl, h1, r1⟩ := rr.lst s
    rw [bls_rep e1 r1] at h1
    exact ⟨a, ns, rfl, .of h1, q _ H F (.refl s) (.bl _)⟩
  · cases e
def dTuple : List D → Option D
  | [.lst xs] => some (.tup xs)
  | [.tup xs] => some (.tup xs)
  | _ => none
def rTupOf (K : PySem.W.Frag) : List V → Hp → VK → Prop := fun xs H Q => ∃ p ys, xs = [.ref p] ∧ ((SqL K H p ys ∧ ∀ l, H l = none → Q (.ref l) (upd H l (.tup ys))) ∨ (SqT K H p ys ∧ Q (.ref p) H))
theorem d_tuple : Fn1 K dTuple (rTupOf K) := by
  intro F H vs ds d Q s r e q
  unfold dTuple at e
  split at e
  · cases e
    obtain ⟨v, rfl, rr⟩ := bl1 r
    obtain ⟨a, ws, rfl, h1, r1⟩ := rr.lst s
    refine ⟨a, ws, rfl, .inl ⟨.of h1, fun l nl => ?_⟩⟩
    have E := Ext.laid s (o := .tup ws) nl
    exact q _ _ _ E (.ob upd_same (.tup (r1.mono E.f)))
  · cases e
    obtain ⟨v, rfl, rr⟩ := bl1 r
    obtain ⟨a, ws, rfl, h1, r1⟩ := rr.tup
    exact ⟨a, ws, rfl, .inr ⟨.of (s _ _ h1), q _ H F (.refl s) (.ob h1 (.tup r1))⟩⟩
  · cases e
def dList : List D → Option D
  | [.lst xs] => some (.lst xs)
  | [.tup xs] => some (.lst xs)
  | _ => none
def rListOf (K : PySem.W.Frag) : List V → Hp → VK → Prop := fun xs H Q => ∃ p ys, xs = [.ref p] ∧ (SqL K H p ys ∨ SqT K H p ys) ∧ ∀ l, H l = none → Q (.ref l) (upd H l (.lst ys))
theorem d_list : Fn1N K dList (rListOf K) := by
  intro F H vs ds d Q s r e q
  unfold dList at e
  split at e
  · cases e
    obtain ⟨v, rfl, rr⟩ := bl1 r
    obtain ⟨a, ws, rfl, h1, r1⟩ := rr.lst s
    exact ⟨a, ws, rfl, .inl (.of h1), fun l nl => q l _ _ F (Ext.own s nl) nl (s.free nl) upd_same rfl (.lst r1)⟩
  · cases e
    obtain ⟨v, rfl, rr⟩ := bl1 r
    obtain ⟨a, ws, rfl, h1, r1⟩ := rr.tup
    exact ⟨a, ws, rfl, .inr (.of (s _ _ h1)), fun l nl => q l _ _ F (Ext.own s nl) nl (s.free nl) upd_same rfl (.lst r1)⟩
  · cases e
end

/-! ### range as a value: list(range(..)), tuple(range(..)) -/
def rngD (a b : Int) : List D := (List.range (b - a).toNat).map fun i => D.int (a + (i : Nat))
def okR (a b : Int) : Bool := decide (-1000000 ≤ a) && decide (a ≤ 1000000) && decide (-1000000 ≤ b) && decide (b ≤ 1000000)
theorem okR_bounds {a b : Int} (h : okR a b = true) : -1000000 ≤ a ∧ a ≤ 1000000 ∧ -1000000 ≤ b ∧ b ≤ 1000000 := by
  unfold okR at h
  simp only [Bool.and_eq_true, decide_eq_true_eq] at h
  omega
theorem big62 : (2 : Int) ^ 62 = 4611686018427387904 := by decide
theorem okR_rg {a b : Int} (h : okR a b = true) : RgOk a b := by
  obtain ⟨h1, h2, h3, h4⟩ := okR_bounds h
  unfold RgOk
  rw [big62]
  refine ⟨by omega, by omega, by omega, by omega, ?_⟩
  have : (2 : Nat) ^ 24 = 16777216 := by decide
  rw [this]
  omega
theorem rep_rng {K : PySem.W.Frag} {F : Hp} (a b : Int) : RepL K F (rgV a b) (rngD a b) := by
  unfold rgV rngD
  generalize List.range (b - a).toNat = l
  induction l with
  | nil => exact .nil
  | cons x l ih => exact .cons (.int _) ih
abbrev MR := En → Option (Int × Int)
def rdR (K : PySem.W.Frag) (m : MR) : L2.St → Hp → (Int → Int → Hp → Prop) → Prop := fun σ H Q => ∃ H0 F Γ p, Rel K H0 F H σ Γ ∧ m Γ = some p ∧ ∀ H' F', Ext F H F' H' → Q p.1 p.2 H'
def dI : D → Option Int
  | .int i => some i
  | _ => none
def mR1 (a : ME) : MR := fun Γ => ((a Γ).bind dI).map fun n => (0, n)
def mR2 (a b : ME) : MR := fun Γ => ((a Γ).bind dI).bind fun i => ((b Γ).bind dI).map fun j => (i, j)
section
variable {X : Cx} {a b : Expr} {p pos : Pos} {ma mb : ME} {mr : MR} {e : Expr}
theorem dI_some {d : D} {i : Int} (h : dI d = some i) : d = .int i := by
  unfold dI at h
  split at h
  · cases h; rfl
  · cases h
theorem r_rg1 (hg : Gl X "range") (hm : X.mg "range" = none) (ha : PE X a (rdB X.K ma)) (na : starEach [a] X.env = (false, eval a X.env) :: starEach [] X.env := by rfl) : PRg X (.Call (.Name "range" p) [a] [] pos) (rdR X.K (mR1 ma)) :=
  fun pins s σ H Q I ⟨H0, F, Γ, z, R, e, q⟩ => prg_1 hg hm ha na pins s σ H Q I (by
    obtain ⟨i, e1, rfl⟩ := Option.map_eq_some_iff.mp e
    obtain ⟨d, e3, e2⟩ := Option.bind_eq_some_iff.mp e1
    rw [dI_some e2] at e3
    exact ⟨H0, F, Γ, _, R, e3, fun v H' F' E r => ⟨i, r.int, q H' F' E⟩⟩)
theorem r_rg2 (hg : Gl X "range") (hm : X.mg "range" = none) (ha : PE X a (rdB X.K ma)) (hb : PE X b (rdB X.K mb)) (na : starEach [a, b] X.env = (false, eval a X.env) :: starEach [b] X.env := by rfl)
    (nb : starEach [b] X.env = (false, eval b X.env) :: starEach [] X.env := by rfl) (nc : ∀ p, ((backTo p (starEach [b] X.env)).any fun x => x.1) = false := by intro _; rfl) : PRg X (.Call (.Name "range" p) [a, b] [] pos) (rdR X.K (mR2 ma mb)) :=
  fun pins s σ H Q I ⟨H0, F, Γ, z, R, e, q⟩ => prg_2 hg hm ha hb na nb (nc _) pins s σ H Q I (by
    obtain ⟨i, e1, e3⟩ := Option.bind_eq_some_iff.mp e
    obtain ⟨d, e6, e2⟩ := Option.bind_eq_some_iff.mp e1
    obtain ⟨j, e5, rfl⟩ := Option.map_eq_some_iff.mp e3
    obtain ⟨d', e7, e4⟩ := Option.bind_eq_some_iff.mp e5
    rw [dI_some e2] at e6
    rw [dI_some e4] at e7
    exact ⟨H0, F, Γ, _, R, e6, fun v H' F' E r => ⟨H0, F', Γ, _, R.ext E, e7, fun w H2 F2 E2 r2 => ⟨i, j, r.int, r2.int, q H2 F2 (E.trans E2)⟩⟩⟩)
def mLstR (m : MR) : ME := fun Γ => (m Γ).bind fun p => if okR p.1 p.2 then some (.lst (rngD p.1 p.2)) else none
def mTupR (m : MR) : ME := fun Γ => (m Γ).bind fun p => if okR p.1 p.2 then some (.tup (rngD p.1 p.2)) else none
theorem r_lstRN (hc : X.calm = true) (hg : Gl X "list") (hm : X.mg "list" = none) (he : PRg X e (rdR X.K mr)) (na : starEach [e] X.env = (false, eval e X.env) :: starEach [] X.env := by rfl) : PE X (.Call (.Name "list" p) [e] [] pos) (rdN X.K (mLstR mr)) :=
  PE.wk (pe_listRg hc hg hm he na) fun σ H Q ⟨H0, F, Γ, d, R, z, q⟩ => by
    obtain ⟨ab, e1, z⟩ := Option.bind_eq_some_iff.mp z
    obtain ⟨c, rfl⟩ := ite_some z
    exact ⟨H0, F, Γ, ab, R, e1, fun H1 F1 E1 => ⟨okR_rg c, fun p np => q p _ _ F1 (E1.trans (Ext.own E1.fh np)) (E1.h.free np) (E1.fh.free np) upd_same rfl (.lst (rep_rng _ _))⟩⟩
theorem r_tupR (hc : X.calm = true) (hg : Gl X "tuple") (hm : X.mg "tuple" = none) (he : PRg X e (rdR X.K mr)) (na : starEach [e] X.env = (false, eval e X.env) :: starEach [] X.env := by rfl) : PE X (.Call (.Name "tuple" p) [e] [] pos) (rdE X.K (mTupR mr)) :=
  PE.wk (pe_tupRg hc hg hm he na) fun σ H Q ⟨H0, F, Γ, d, R, z, q⟩ => by
    obtain ⟨ab, e1, z⟩ := Option.bind_eq_some_iff.mp z
    obtain ⟨c, rfl⟩ := ite_some z
    refine ⟨H0, F, Γ, ab, R, e1, fun H1 F1 E1 => ⟨okR_rg c, fun p np => ?_⟩⟩
    have E := Ext.laid E1.fh (o := .tup (rgV ab.1 ab.2)) np
    exact q _ _ _ (E1.trans E) (.ob upd_same (.tup (rep_rng _ _)))
end

/-! ### calls of defs -/
/-- a def's promise: what m tells of its arguments comes back, all that stood stays -/
def spF (K : PySem.W.Frag) (m : List D → Option D) : Sp := fun vs H Q _ => ∃ F ds d, Same F H ∧ RepL K F vs ds ∧ m ds = some d ∧ ∀ v H' F', Ext F H F' H' → Rep K F' v d → Q v H'
section
variable {X : Cx} {k : Nat} {f : Addr} {fd : FuncData} {ps : List Str} {x : Str} {p pos : Pos} {e : Expr} {es : List Expr} {ms : MA} {m : List D → Option D}
theorem r_call (G : FnOk X.prog X.w X.K X.mg X.base CX0 k f fd ps (spF X.K m)) (hr : Room k X.A) (hg : Gl X x) (hm : X.mg x = some (.ref f)) (hk : PySem.W.keepIn X.K (.ref f) = true) (hb : Binds X.K fd ps []) (ha : PA X (e :: es) (rdA X.K ms))
    (hdb : (x == ("__debug__" : Str)) = false := by decide) (he : starEach (e :: es) X.env = (false, eval e X.env) :: starEach es X.env := by rfl) (hpl : (backTo pos (starEach es X.env)).any (·.1) = false := by rfl) :
    PE X (.Call (.Name x p) (e :: es) [] pos) (rdE X.K (mCall m ms)) :=
  PE.wk (pe_call (E := E0) G hr hg hm hk hb .nil pass0 ha hdb he hpl) fun σ H Q ⟨H0, F, Γ, d, R, z, q⟩ => by
    obtain ⟨ds, ed, z⟩ := Option.bind_eq_some_iff.mp z
    refine ⟨H0, F, Γ, ds, R, ed, fun vs H1 F1 E1 r1 => ?_⟩
    show spF X.K m (vs ++ []) H1 Q E0
    rw [List.append_nil]
    exact ⟨F1, ds, d, E1.fh, r1, z, fun v H' F' E2 rv => q v H' F' (E1.trans E2) rv⟩
end
end SK

set_option Elab.async false
set_option linter.all false
set_option maxRecDepth 100000
set_option maxHeartbeats 4000000
set_option autoImplicit false
namespace SK
open PySem PySem.Spec PyProof.Rows L2

/-! ### what is walked -/
/-- an iteration's turns hand out xs, as long as F1 stands -/
structure ItOk (K : PySem.W.Frag) (F1 : Hp) (J : It) (xs : List D) : Prop where
  go : ∀ F H (i : Nat) d, Same F1 F → Same F H → xs[i]? = some d → J.go i H ∧ ∀ x H', J.yld i H x H' → ∃ F', Ext F H F' H' ∧ Rep K F' x d
  stop : ∀ F H, Same F1 F → Same F H → J.stop xs.length H
abbrev ML := En → Option (List D)
def rdI (K : PySem.W.Frag) (m : ML) : TI := fun σ H R => ∃ H0 F Γ xs, Rel K H0 F H σ Γ ∧ m Γ = some xs ∧ ∀ J H' F', Ext F H F' H' → ItOk K F' J xs → R J H'
def itemsD : D → Option (List D)
  | .tup xs => some xs
  | .lst xs => some xs
  | _ => none
def mItems (m : ME) : ML := fun Γ => (m Γ).bind itemsD
section
variable {X : Cx} {tg e a b c : Expr} {p pos : Pos} {ma mb mc : ME} {ms : MA}
theorem PI_or {w1 w2 : TI} (h1 : PI X tg e w1) (h2 : PI X tg e w2) : PI X tg e (fun σ H R => w1 σ H R ∨ w2 σ H R) := ⟨fun pins s σ H R I h => by
  rcases h with h | h
  · exact h1.run pins s σ H R I h
  · exact h2.run pins s σ H R I h⟩
theorem PI_wk {w1 w2 : TI} (h1 : PI X tg e w1) (w : ∀ σ H R, w2 σ H R → w1 σ H R) : PI X tg e w2 := ⟨fun pins s σ H R I h => h1.run pins s σ H R I (w _ _ _ h)⟩
theorem itl_ok {K : PySem.W.Frag} {F1 : Hp} {a : Addr} {vs : List V} {xs : List D} (h : F1 a = some (.lst vs)) (r : RepL K F1 vs xs) : ItOk K F1 (Itl K a) xs := by
  refine ⟨fun F H i d s1 s2 e => ?_, fun F H s1 s2 => ⟨vs, .of (s2 _ _ (s1 _ _ h)), by rw [r.length]; exact Nat.le_refl _⟩⟩
  obtain ⟨v, h1, h2⟩ := r.get e
  have hq : SqL K H a vs := .of (s2 _ _ (s1 _ _ h))
  refine ⟨⟨vs, v, hq, h1⟩, fun x H' y => ?_⟩
  obtain ⟨rfl, y⟩ := y
  have := y vs hq
  rw [h1] at this
  cases this
  exact ⟨F, .refl s2, h2.mono s1⟩
theorem itt_ok {K : PySem.W.Frag} {F1 : Hp} {a : Addr} {vs : List V} {xs : List D} (h : F1 a = some (.tup vs)) (r : RepL K F1 vs xs) : ItOk K F1 (Itt K a) xs := by
  refine ⟨fun F H i d s1 s2 e => ?_, fun F H s1 s2 => ⟨vs, .of (s2 _ _ (s1 _ _ h)), by rw [r.length]; exact Nat.le_refl _⟩⟩
  obtain ⟨v, h1, h2⟩ := r.get e
  have hq : SqT K H a vs := .of (s2 _ _ (s1 _ _ h))
  refine ⟨⟨vs, v, hq, h1⟩, fun x H' y => ?_⟩
  obtain ⟨rfl, y⟩ := y
  have := y vs hq
  rw [h1] at this
  cases this
  exact ⟨F, .refl s2, h2.mono s1⟩
/-- a list, a tuple -/
theorem i_seq (ha : PE X e (rdE X.K ma)) : PI X tg e (rdI X.K (mItems ma)) :=
  PI_wk (PI_or (pi_list ha) (pi_tup ha)) fun σ H R ⟨H0, F, Γ, xs, R0, z, q⟩ => by
    obtain ⟨d, e1, z⟩ := Option.bind_eq_some_iff.mp z
    unfold itemsD at z
    split at z
    · cases z
      refine .inr ⟨H0, F, Γ, _, R0, e1, fun v H' F' E r => ?_⟩
      obtain ⟨a, vs, rfl, h1, r1⟩ := r.tupI
      exact ⟨a, rfl, ⟨vs, .of (E.fh _ _ h1)⟩, q _ H' F' E (itt_ok h1 r1)⟩
    · cases z
      refine .inl ⟨H0, F, Γ, _, R0, e1, fun v H' F' E r => ?_⟩
      obtain ⟨a, vs, rfl, h1, r1⟩ := r.lstI
      exact ⟨a, rfl, ⟨vs, .of (E.fh _ _ h1)⟩, q _ H' F' E (itl_ok h1 r1)⟩
    · cases z
theorem rngD_get {lo hi : Int} {i : Nat} {d : D} (e : (rngD lo hi)[i]? = some d) : i < (hi - lo).toNat ∧ d = .int (lo + i) := by
  unfold rngD at e
  rw [List.getElem?_map] at e
  obtain ⟨j, e1, rfl⟩ := Option.map_eq_some_iff.mp e
  obtain ⟨h1, h2⟩ := List.getElem?_eq_some_iff.mp e1
  rw [List.length_range] at h1
  rw [List.getElem_range] at h2
  exact ⟨h1, by rw [← h2]⟩
theorem rngD_len (lo hi : Int) : (rngD lo hi).length = (hi - lo).toNat := by unfold rngD; rw [List.length_map, List.length_range]
theorem itr_ok {K : PySem.W.Frag} {F1 : Hp} {lo hi : Int} : ItOk K F1 (Itr lo (hi - lo).toNat) (rngD lo hi) := by
  refine ⟨fun F H i d s1 s2 e => ?_, fun F H s1 s2 => by rw [rngD_len]; exact Nat.le_refl _⟩
  obtain ⟨h1, rfl⟩ := rngD_get e
  refine ⟨h1, fun x H' y => ?_⟩
  obtain ⟨rfl, rfl⟩ := y
  exact ⟨F, .refl s2, .int _⟩
def mRng1 (a : ME) : ML := fun Γ => ((a Γ).bind dI).bind fun n => if okR 0 n then some (rngD 0 n) else none
def mRng2 (a b : ME) : ML := fun Γ => ((a Γ).bind dI).bind fun i => ((b Γ).bind dI).bind fun j => if okR i j then some (rngD i j) else none
theorem ite_someL {α : Type} {c : Bool} {a b : α} (h : (if c then some a else none) = some b) : c = true ∧ b = a := by
  cases c
  · cases h
  · exact ⟨rfl, (Option.some.inj h).symm⟩
theorem i_rng1 (hg : Gl X "range") (hm : X.mg "range" = none) (ha : PE X a (rdB X.K ma)) (na : starEach [a] X.env = (false, eval a X.env) :: starEach [] X.env := by rfl) : PI X tg (.Call (.Name "range" p) [a] [] pos) (rdI X.K (mRng1 ma)) :=
  PI_wk (pi_range1 hg hm (r_bcons ha r_bnil na) na) fun σ H R ⟨H0, F, Γ, xs, R0, z, q⟩ => by
    obtain ⟨n, e1, z⟩ := Option.bind_eq_some_iff.mp z
    obtain ⟨d, e2, e3⟩ := Option.bind_eq_some_iff.mp e1
    rw [dI_some e3] at e2
    obtain ⟨c, rfl⟩ := ite_someL z
    obtain ⟨c1, c2, c3, c4⟩ := okR_bounds c
    refine ⟨H0, F, Γ, [.int n], R0, by simp only [mCons, mNil, e2, Option.bind_some], fun vs H' F' E r => ?_⟩
    obtain ⟨v, rfl, rr⟩ := bl1 r
    refine ⟨n, by rw [rr.int], by rw [big62]; omega, by rw [big62]; omega, ?_⟩
    have := q (Itr 0 (n - 0).toNat) H' F' E itr_ok
    rw [Int.sub_zero] at this
    exact this
theorem i_rng2 (hg : Gl X "range") (hm : X.mg "range" = none) (ha : PE X a (rdB X.K ma)) (hb : PE X b (rdB X.K mb)) (na : starEach [a, b] X.env = (false, eval a X.env) :: starEach [b] X.env := by rfl) (nb : starEach [b] X.env = (false, eval b X.env) :: starEach [] X.env := by rfl) :
    PI X tg (.Call (.Name "range" p) [a, b] [] pos) (rdI X.K (mRng2 ma mb)) :=
  PI_wk (pi_range2 hg hm (r_bcons ha (r_bcons hb r_bnil nb) na) (by rw [na, nb]; rfl) nb) fun σ H R ⟨H0, F, Γ, xs, R0, z, q⟩ => by
    obtain ⟨i, e1, z⟩ := Option.bind_eq_some_iff.mp z
    obtain ⟨d, e2, e3⟩ := Option.bind_eq_some_iff.mp e1
    rw [dI_some e3] at e2
    obtain ⟨j, e4, z⟩ := Option.bind_eq_some_iff.mp z
    obtain ⟨d', e5, e6⟩ := Option.bind_eq_some_iff.mp e4
    rw [dI_some e6] at e5
    obtain ⟨c, rfl⟩ := ite_someL z
    obtain ⟨c1, c2, c3, c4⟩ := okR_bounds c
    refine ⟨H0, F, Γ, [.int i, .int j], R0, by simp only [mCons, mNil, e2, e5, Option.bind_some], fun vs H' F' E r => ?_⟩
    obtain ⟨v, w, rfl, r1, r2⟩ := bl2 r
    exact ⟨i, j, by rw [r1.int, r2.int], ⟨by rw [big62]; omega, by rw [big62]; omega, by rw [big62]; omega, by rw [big62]; omega⟩, q _ H' F' E itr_ok⟩
end

/-! ### targets -/
abbrev MG := D → En → Option En
abbrev MGs := List D → En → Option En
/-- the slots but those at ws are as they were -/
def Off (ws : List Nat) (σ σ' : L2.St) : Prop := σ'.length = σ.length ∧ ∀ i : Nat, i ∉ ws → σ'[i]? = σ[i]?
theorem Off.trans {ws vs : List Nat} {σ σ' σ2 : L2.St} (a : Off ws σ σ') (b : Off vs σ' σ2) : Off (ws ++ vs) σ σ2 :=
  ⟨b.1.trans a.1, fun i h => (b.2 i fun z => h (List.mem_append.mpr (.inr z))).trans (a.2 i fun z => h (List.mem_append.mpr (.inl z)))⟩
/-- what slots have as their own is what they had -/
def OwnK (Γ Γ' : En) (σ σ' : L2.St) : Prop := ∀ (j : Nat) (e : D), Γ'[j]? = some (.own e) → Γ[j]? = some (.own e) ∧ σ'[j]? = σ[j]?
theorem OwnK.trans {Γ Γ' Γ2 : En} {σ σ' σ2 : L2.St} (a : OwnK Γ Γ' σ σ') (b : OwnK Γ' Γ2 σ' σ2) : OwnK Γ Γ2 σ σ2 := fun j e h =>
  ⟨(a j e (b j e h).1).1, (b j e h).2.trans (a j e (b j e h).1).2⟩
def rdG (K : PySem.W.Frag) (ws : List Nat) (g : MG) : TG := fun v σ H Q => ∃ H0 F Γ d Γ', Rel K H0 F H σ Γ ∧ Rep K F v d ∧ g d Γ = some Γ' ∧ ∀ σ', Rel K H0 F H σ' Γ' → Off ws σ σ' → OwnK Γ Γ' σ σ' → Q σ' H
def rdGs (K : PySem.W.Frag) (ws : List Nat) (g : MGs) : TGs := fun vs σ H Q => ∃ H0 F Γ ds Γ', Rel K H0 F H σ Γ ∧ RepL K F vs ds ∧ g ds Γ = some Γ' ∧ ∀ σ', Rel K H0 F H σ' Γ' → Off ws σ σ' → OwnK Γ Γ' σ σ' → Q σ' H
def gN (i : Nat) : MG := fun d Γ => some (Γ.set i (.val d))
def gsN : MGs := fun ds Γ => match ds with
  | [] => some Γ
  | _ => none
def gsC (g : MG) (r : MGs) : MGs := fun ds Γ => match ds with
  | d :: ds => (g d Γ).bind fun Γ' => r ds Γ'
  | [] => none
def gT (r : MGs) : MG := fun d Γ => match d with
  | .tup ds => r ds Γ
  | _ => none
def gL (r : MGs) : MG := fun d Γ => match d with
  | .lst ds => r ds Γ
  | _ => none
/-- how many targets -/
inductive GLen : MGs → Nat → Prop
  | nil : GLen gsN 0
  | cons {g : MG} {r : MGs} {n : Nat} : GLen r n → GLen (gsC g r) (n + 1)
theorem GLen.eq : ∀ {r : MGs} {n : Nat}, GLen r n → ∀ {ds : List D} {Γ Γ' : En}, r ds Γ = some Γ' → ds.length = n
  | _, _, .nil, ds, Γ, Γ', e => by
    cases ds with
    | nil => rfl
    | cons => cases e
  | _, _, .cons h, ds, Γ, Γ', e => by
    cases ds with
    | nil => cases e
    | cons d ds =>
      obtain ⟨Γ1, _, e⟩ := Option.bind_eq_some_iff.mp e
      rw [List.length_cons, h.eq e]
section
variable {X : Cx} {x : Str} {pos : Pos} {e : Expr} {es : List Expr} {g : MG} {gs : MGs}
theorem PG_wk {t t' : TG} (h : PG X e t) (w : ∀ v σ H Q, t' v σ H Q → t v σ H Q) : PG X e t' := ⟨fun pins s σ H v u Q I r q => h.run pins s σ H v u Q I r (w _ _ _ _ q)⟩
theorem PGs_wk {t t' : TGs} (h : PGs X es t) (w : ∀ v σ H Q, t' v σ H Q → t v σ H Q) : PGs X es t' := ⟨fun pins s σ H v u Q I r q => h.run pins s σ H v u Q I r (w _ _ _ _ q)⟩
theorem g_n (i : Nat) (hN : X.N.Nodup) (hi : X.N[i]? = some x := by rfl) (hx : Loc X.env.scope x := by first | exact Or.inl rfl | exact Or.inr rfl) (hf : X.fn x = true ∨ X.env.scope.names.lookup x = some .local := by first | exact .inl rfl | exact .inr rfl | assumption) : PG X (.Name x pos) (rdG X.K [i] (gN i)) :=
  PG_wk (pg_name hN hi hx hf) fun v σ H Q ⟨H0, F, Γ, d, Γ', R, r, z, q⟩ => by
    cases z
    exact q _ (R.setVal i r) ⟨List.length_set, fun j h => get_set_ne fun z => h (by rw [z]; exact List.mem_singleton.mpr rfl)⟩ (fun j e h => by
      rcases set_get h with ⟨_, h, _⟩ | ⟨n, h⟩
      · cases h
      · exact ⟨h, get_set_ne n⟩)
theorem gs_n : PGs X [] (rdGs X.K [] gsN) := PGs_wk pgs_nil fun v σ H Q ⟨H0, F, Γ, ds, Γ', R, r, z, q⟩ => by
  unfold gsN at z
  split at z
  · cases z; cases r; exact ⟨rfl, q _ R ⟨rfl, fun _ _ => rfl⟩ fun _ _ h => ⟨h, rfl⟩⟩
  · cases z
theorem gs_c {ws vs : List Nat} (h1 : PG X e (rdG X.K ws g)) (h2 : PGs X es (rdGs X.K vs gs)) (hs : (assignEach (e :: es) X.env).map (·.2) = assign e X.env :: (assignEach es X.env).map (·.2) := by rfl) : PGs X (e :: es) (rdGs X.K (ws ++ vs) (gsC g gs)) :=
  PGs_wk (pgs_cons h1 h2 hs) fun v σ H Q ⟨H0, F, Γ, ds, Γ', R, r, z, q⟩ => by
    unfold gsC at z
    split at z
    · obtain ⟨Γ1, e1, z⟩ := Option.bind_eq_some_iff.mp z
      cases r with
      | cons h r => exact ⟨_, _, rfl, H0, F, Γ, _, Γ1, R, h, e1, fun σ' R' o1 k1 => ⟨H0, F, Γ1, _, Γ', R', r, z, fun σ'' R'' o2 k2 => q σ'' R'' (o1.trans o2) (k1.trans k2)⟩⟩
    · cases z
theorem g_t {k n : Nat} {ws : List Nat} (hc : X.calm = true) (h : PGs X es (rdGs X.K ws gs)) (hl : GLen gs n := by repeat' constructor) (hn : (assignEach es X.env).length = n := by rfl) (hst : (assignEach es X.env).findIdx? (·.1) = none := by rfl) : PG X (.Tuple es k pos) (rdG X.K ws (gT gs)) :=
  PG_wk (pg_tup hc h hn hst) fun v σ H Q ⟨H0, F, Γ, d, Γ', R, r, z, q⟩ => by
    unfold gT at z
    split at z
    · obtain ⟨a, vs, rfl, h1, r1⟩ := r.tupI
      exact ⟨a, vs, rfl, .of (R.fh _ _ h1), by rw [r1.length]; exact hl.eq z, H0, F, Γ, _, Γ', R, r1, z, q⟩
    · cases z
theorem g_l {k n : Nat} {ws : List Nat} (hc : X.calm = true) (h : PGs X es (rdGs X.K ws gs)) (hl : GLen gs n := by repeat' constructor) (hn : (assignEach es X.env).length = n := by rfl) (hst : (assignEach es X.env).findIdx? (·.1) = none := by rfl) : PG X (.Tuple es k pos) (rdG X.K ws (gL gs)) :=
  PG_wk (pg_unl hc h hn hst) fun v σ H Q ⟨H0, F, Γ, d, Γ', R, r, z, q⟩ => by
    unfold gL at z
    split at z
    · obtain ⟨a, vs, rfl, h1, r1⟩ := r.lstI
      exact ⟨a, vs, rfl, .of (R.fh _ _ h1), by rw [r1.length]; exact hl.eq z, H0, F, Γ, _, Γ', R, r1, z, q⟩
    · cases z
end

/-! ### statements -/
inductive Fl where
  | nx | bk | ct | rt (d : D)
abbrev MS := En → Option (Fl × En)
def Fin (K : PySem.W.Frag) (D0 : Ends) (σ : L2.St) (H F : Hp) : Fl → Prop
  | .nx => D0.nx σ H
  | .bk => D0.bk σ H
  | .ct => D0.ct σ H
  | .rt d => ∀ v F' H', Ext F H F' H' → Rep K F' v d → D0.rt v H'
/-- F grows, by what is new since the entry -/
def Grow (H0 F F' : Hp) : Prop := Same F F' ∧ ∀ b o, F' b = some o → F b = none → Newly H0 b
theorem Grow.refl {H0 F : Hp} : Grow H0 F F := ⟨.refl _, fun b o e n => (by rw [n] at e; cases e)⟩
theorem Grow.trans {H0 F F' F2 : Hp} (a : Grow H0 F F') (b : Grow H0 F' F2) : Grow H0 F F2 := by
  refine ⟨a.1.trans b.1, fun c o e n => ?_⟩
  cases q : F' c with
  | none => exact b.2 c o e q
  | some u => exact a.2 c u q n
theorem Grow.ext {H0 F H F' H' : Hp} (s : Same H0 H) (E : Ext F H F' H') : Grow H0 F F' := ⟨E.f, fun b o e n => (E.new b o e n).back s⟩
def rdS (K : PySem.W.Frag) (H0 : Hp) (m : MS) : TS := fun D0 σ H => ∃ F Γ fl Γ', Rel K H0 F H σ Γ ∧ m Γ = some (fl, Γ') ∧ ∀ σ' H' F', Grow H0 F F' → Rel K H0 F' H' σ' Γ' → Fin K D0 σ' H' F' fl
def sNx : MS := fun Γ => some (.nx, Γ)
def sBk : MS := fun Γ => some (.bk, Γ)
def sCt : MS := fun Γ => some (.ct, Γ)
def sSq (a b : MS) : MS := fun Γ => match a Γ with
  | some (.nx, Γ') => b Γ'
  | r => r
def sRt (m : ME) : MS := fun Γ => (m Γ).map fun d => (.rt d, Γ)
def sIf (c : MT) (a b : MS) : MS := fun Γ => (c Γ).bind fun t => if t then a Γ else b Γ
def sSet (i : Nat) (m : MX) : MS := fun Γ => (m Γ).map fun s => (.nx, Γ.set i s)
def sTg (g : MG) (m : ME) : MS := fun Γ => (m Γ).bind fun d => (g d Γ).map fun Γ' => (.nx, Γ')
def sPar (i j : Nat) (a b : MX) : MS := fun Γ => (a Γ).bind fun s => (b Γ).map fun t => (.nx, (Γ.set i s).set j t)
def sFrz (i : Nat) (a : MS) : MS := fun Γ => a (frz1 i Γ)
def sDrop (m : ME) : MS := fun Γ => (m Γ).map fun _ => (.nx, Γ)
section
variable {X : Cx} {H0 : Hp} {st : Stmt} {rest body other : List Stmt} {e c a b : Expr} {pos : Pos} {m n : MS} {me : ME} {mt : MT} {mx my : MX} {g : MG}
theorem PS_wk {t t' : TS} (h : PS X st t) (w : ∀ D0 σ H, t' D0 σ H → t D0 σ H) : PS X st t' := ⟨fun pins s σ H D0 I q => h.run pins s σ H D0 I (w _ _ _ q)⟩
theorem PSs_wk {t t' : TS} (h : PSs X rest t) (w : ∀ D0 σ H, t' D0 σ H → t D0 σ H) : PSs X rest t' := ⟨fun pins s σ H D0 I q => h.run pins s σ H D0 I (w _ _ _ q)⟩
theorem s_nil : PSs X [] (rdS X.K H0 sNx) := PSs_wk pss_nil fun D0 σ H ⟨F, Γ, fl, Γ', R, z, q⟩ => by cases z; exact q σ H F .refl R
theorem s_one (h : PS X st (rdS X.K H0 m)) : PSs X [st] (rdS X.K H0 m) := pss_one h
theorem s_cons (h1 : PS X st (rdS X.K H0 m)) (h2 : PSs X rest (rdS X.K H0 n)) : PSs X (st :: rest) (rdS X.K H0 (sSq m n)) :=
  PSs_wk (pss_cons h1 h2) fun D0 σ H ⟨F, Γ, fl, Γ', R, z, q⟩ => by
    unfold sSq at z
    split at z
    · rename_i Γ1 e1
      exact ⟨F, Γ, .nx, Γ1, R, e1, fun σ1 H1 F1 G1 R1 => ⟨F1, Γ1, fl, Γ', R1, z, fun σ2 H2 F2 G2 R2 => q σ2 H2 F2 (G1.trans G2) R2⟩⟩
    · rename_i hn
      refine ⟨F, Γ, fl, Γ', R, z, fun σ1 H1 F1 G1 R1 => ?_⟩
      cases fl with
      | nx => exact (hn _ z).elim
      | bk => exact q σ1 H1 F1 G1 R1
      | ct => exact q σ1 H1 F1 G1 R1
      | rt d => exact q σ1 H1 F1 G1 R1
theorem s_pass : PS X (.Pass pos) (rdS X.K H0 sNx) := PS_wk ps_pass fun D0 σ H ⟨F, Γ, fl, Γ', R, z, q⟩ => by cases z; exact q σ H F .refl R
theorem s_break : PS X (.Break pos) (rdS X.K H0 sBk) := PS_wk ps_break fun D0 σ H ⟨F, Γ, fl, Γ', R, z, q⟩ => by cases z; exact q σ H F .refl R
theorem s_cont : PS X (.Continue pos) (rdS X.K H0 sCt) := PS_wk ps_continue fun D0 σ H ⟨F, Γ, fl, Γ', R, z, q⟩ => by cases z; exact q σ H F .refl R
theorem s_ret (he : PE X e (rdE X.K me)) : PS X (.Return (some e) pos) (rdS X.K H0 (sRt me)) :=
  PS_wk (ps_ret he) fun D0 σ H ⟨F, Γ, fl, Γ', R, z, q⟩ => by
    obtain ⟨d, e1, z⟩ := Option.map_eq_some_iff.mp z
    cases z
    exact ⟨H0, F, Γ, d, R, e1, fun v H' F' E r => q σ H F .refl R v F' H' E r⟩
theorem s_retN : PS X (.Return none pos) (rdS X.K H0 (sRt (mC .non))) :=
  PS_wk ps_retN fun D0 σ H ⟨F, Γ, fl, Γ', R, z, q⟩ => by
    cases z
    exact q σ H F .refl R .non F H (.refl R.fh) .non
theorem s_if (hc : PT X c (rdT X.K mt)) (ha : PSs X body (rdS X.K H0 m)) (hb : PSs X other (rdS X.K H0 n)) : PS X (.If c body other pos) (rdS X.K H0 (sIf mt m n)) :=
  PS_wk (ps_if hc ha hb) fun D0 σ H ⟨F, Γ, fl, Γ', R, z, q⟩ => by
    obtain ⟨t, e1, z⟩ := Option.bind_eq_some_iff.mp z
    refine ⟨H0, F, Γ, t, R, e1, fun H1 F1 E1 => ?_⟩
    have G := Grow.ext R.h0 E1
    cases t with
    | true => exact iteT ⟨F1, Γ, fl, Γ', R.ext E1, z, fun σ2 H2 F2 G2 R2 => q σ2 H2 F2 (G.trans G2) R2⟩
    | false => exact iteF ⟨F1, Γ, fl, Γ', R.ext E1, z, fun σ2 H2 F2 G2 R2 => q σ2 H2 F2 (G.trans G2) R2⟩
theorem asgX {σ H} {D0 : Ends} {i : Nat} (h : rdS X.K H0 (sSet i mx) D0 σ H) : tAsg (rdX X.K mx) (gName i) D0 σ H := by
  obtain ⟨F, Γ, fl, Γ', R, z, q⟩ := h
  obtain ⟨s, e1, z⟩ := Option.map_eq_some_iff.mp z
  cases z
  exact ⟨H0, F, Γ, s, R, e1, fun v H' F' E r => q _ H' F' (Grow.ext R.h0 E) (R.setX E r i)⟩
theorem s_set (i : Nat) {x : Str} {pos' : Pos} (hN : X.N.Nodup) (he : PE X e (rdX X.K mx)) (hi : X.N[i]? = some x := by rfl) (hx : Loc X.env.scope x := by first | exact Or.inl rfl | exact Or.inr rfl) (hs : swapsWith e (some (.Name x pos')) pos.line X.env = pure false := by rfl)
    (hf : X.fn x = true ∨ X.env.scope.names.lookup x = some .local := by first | exact .inl rfl | exact .inr rfl | assumption) : PS X (.Assign [.Name x pos'] e pos) (rdS X.K H0 (sSet i mx)) :=
  PS_wk (ps_set hN hi hx he hs hf) fun D0 σ H h => asgX h
/-- (a, b, ..) = e -/
theorem s_tg {tg : Expr} {ws : List Nat} (he : PE X e (rdE X.K me)) (hg : PG X tg (rdG X.K ws g)) (hs : swapsWithSole [tg] e pos.line X.env = pure false := by rfl) (hw : swappedStores [tg] e X.env = pure none := by rfl)
    (h1 : (assignEach [tg] X.env).map (·.2) = [assign tg X.env] := by rfl) : PS X (.Assign [tg] e pos) (rdS X.K H0 (sTg g me)) :=
  PS_wk (ps_asg he hg hs hw h1) fun D0 σ H ⟨F, Γ, fl, Γ', R, z, q⟩ => by
    obtain ⟨d, e1, z⟩ := Option.bind_eq_some_iff.mp z
    obtain ⟨Γ1, e2, z⟩ := Option.map_eq_some_iff.mp z
    cases z
    exact ⟨H0, F, Γ, d, R, e1, fun v H' F' E r => ⟨H0, F', Γ, d, _, R.ext E, r, e2, fun σ' R' _ _ => q σ' H' F' (Grow.ext R.h0 E) R'⟩⟩
/-- a, b = x, y: stored from the right -/
theorem s_par (i j : Nat) {x y : Str} {px py pt : Pos} {kt k2 pt2} (hc : X.calm = true) (hN : X.N.Nodup) (ha : PE X a (rdX X.K mx)) (hb : PE X b (rdX X.K my))
    (hw : swappedStores [.Tuple [.Name x px, .Name y py] kt pt] (.Tuple [a, b] k2 pt2) X.env = pure (some [x, y])) (hi : X.N[i]? = some x := by rfl) (hj : X.N[j]? = some y := by rfl) (hij : i ≠ j := by decide)
    (hx : X.env.scope.names.lookup x = some .local := by rfl) (hy : X.env.scope.names.lookup y = some .local := by rfl)
    (hs : swapsWithSole [.Tuple [.Name x px, .Name y py] kt pt] (.Tuple [a, b] k2 pt2) pos.line X.env = pure false := by rfl) (na : starEach [a, b] X.env = (false, eval a X.env) :: starEach [b] X.env := by rfl)
    (nb : starEach [b] X.env = (false, eval b X.env) :: starEach [] X.env := by rfl) : PS X (.Assign [.Tuple [.Name x px, .Name y py] kt pt] (.Tuple [a, b] k2 pt2) pos) (rdS X.K H0 (sPar i j mx my)) :=
  PS_wk (ps_par hc hN hi hj hij hx hy (pa_cons ha (pa_cons hb pa_nil nb) na) hw hs) fun D0 σ H ⟨F, Γ, fl, Γ', R, z, q⟩ => by
    obtain ⟨s, e1, z⟩ := Option.bind_eq_some_iff.mp z
    obtain ⟨t, e2, z⟩ := Option.map_eq_some_iff.mp z
    cases z
    refine ⟨H0, F, Γ, s, R, e1, fun v H1 F1 E1 r1 => ⟨H0, F1, Γ, t, R.ext E1, e2, fun w H2 F2 E2 r2 => ⟨v, w, rfl, ?_⟩⟩⟩
    exact q _ H2 F2 ((Grow.ext R.h0 E1).trans (Grow.ext (R.h0.trans E1.h) E2)) ((R.setX E1 r1 i).setX E2 r2 j)
theorem s_frz (i : Nat) (h : PS X st (rdS X.K H0 m)) : PS X st (rdS X.K H0 (sFrz i m)) := ⟨fun pins s σ H D0 I ⟨F, Γ, fl, Γ', R, z, q⟩ => by
  unfold sFrz frz1 at z
  split at z
  · rename_i d hi
    obtain ⟨m0, a, ob, h1, h2, h3, h4, h5⟩ := R.ownAt hi
    obtain ⟨o', I2, r2⟩ := Inv_give I h4 h2 h5
    obtain ⟨s1, n1, R1⟩ := R.freezeTo hi h1 h2 h3 r2
    exact h.run pins s σ _ D0 I2 ⟨_, _, fl, Γ', R1, z, fun σ2 H2 F2 G2 R2 => q σ2 H2 F2 (Grow.trans ⟨s1, n1⟩ G2) R2⟩
  · exact h.run pins s σ H D0 I ⟨F, Γ, fl, Γ', R, z, q⟩⟩
theorem s_expr (he : PE X e (rdE X.K me)) (hs : swapsWith e none pos.line X.env = pure false := by rfl) : PS X (.Expr e pos) (rdS X.K H0 (sDrop me)) :=
  PS_wk (ps_expr he hs) fun D0 σ H ⟨F, Γ, fl, Γ', R, z, q⟩ => by
    obtain ⟨d, e1, z⟩ := Option.map_eq_some_iff.mp z
    cases z
    exact ⟨H0, F, Γ, d, R, e1, fun v H' F' E r => q σ H' F' (Grow.ext R.h0 E) (R.ext E)⟩
/-! name op= e -/
def sAug (i : Nat) (f : D → D → Option D) (m : ME) : MS := fun Γ => (mVar i Γ).bind fun x => (m Γ).bind fun y => (f x y).map fun z => (.nx, Γ.set i (.val z))
theorem s_aug (i : Nat) {x : Str} {op : Operator} {f : D → D → Option D} {r : R2} {pos' : Pos} (hN : X.N.Nodup) (ho : OpR X (inplaceOp op) r) (hf' : Op2 X.K f r) (he : PE X e (rdB X.K me)) (hi : X.N[i]? = some x := by rfl) (hx : Loc X.env.scope x := by first | exact Or.inl rfl | exact Or.inr rfl)
    (hf : X.fn x = true ∨ X.env.scope.names.lookup x = some .local := by first | exact .inl rfl | exact .inr rfl | assumption) : PS X (.AugAssign (.Name x pos') op e pos) (rdS X.K H0 (sAug i f me)) :=
  PS_wk (ps_aug hN hi hx he ho hf) fun D0 σ H ⟨F, Γ, fl, Γ', R, z, q⟩ => by
    obtain ⟨dx, e1, z⟩ := Option.bind_eq_some_iff.mp z
    obtain ⟨dy, e2, z⟩ := Option.bind_eq_some_iff.mp z
    obtain ⟨dz, e3, z⟩ := Option.map_eq_some_iff.mp z
    cases z
    unfold mVar at e1
    split at e1
    · rename_i d' hd
      cases e1
      obtain ⟨v, h1, h2⟩ := R.valAt hd
      refine ⟨v, h1, H0, F, Γ, dy, R, e2, fun w H1 F1 E1 r1 => hf' F1 H1 v w _ dy dz _ E1.fh (.inl (h2.mono E1.f)) r1 e3 fun u H' F' E2 r2 => ?_⟩
      exact q _ H' F' ((Grow.ext R.h0 E1).trans (Grow.ext (R.h0.trans E1.h) E2)) (((R.ext E1).ext E2).setVal i r2)
    · cases e1
end
end SK

set_option Elab.async false
set_option linter.all false
set_option maxRecDepth 100000
set_option maxHeartbeats 4000000
set_option autoImplicit false
namespace SK
open PySem PySem.Spec PyProof.Rows L2

/-! ### while, for -/
def mWh (c : MT) (b : MS) : Nat → MS
  | 0, _ => none
  | n + 1, Γ => (c Γ).bind fun t => if t then (match b Γ with
      | some (.nx, Γ1) => mWh c b n Γ1
      | some (.ct, Γ1) => mWh c b n Γ1
      | some (.bk, Γ1) => some (.nx, Γ1)
      | r => r) else some (.nx, Γ)
def mFor (g : MG) (b : MS) : List D → MS
  | [], Γ => some (.nx, Γ)
  | x :: xs, Γ => (g x Γ).bind fun Γ1 => match b Γ1 with
      | some (.nx, Γ2) => mFor g b xs Γ2
      | some (.ct, Γ2) => mFor g b xs Γ2
      | some (.bk, Γ2) => some (.nx, Γ2)
      | r => r
def sFor (ml : ML) (g : MG) (b : MS) : MS := fun Γ => (ml Γ).bind fun xs => mFor g b xs Γ
section
variable {X : Cx} {H0 : Hp} {body : List Stmt} {tg iter c : Expr} {pos : Pos} {m : MS} {mt : MT} {g : MG} {ml : ML} {ws : List Nat}
theorem s_while (N : Nat) (hp : PassesOwn (model X.prog X.w) X.A X.env X.xe) (hc : PT X c (rdT X.K mt)) (hb : PSs X body (rdS X.K H0 m)) : PS X (.While c body [] pos) (rdS X.K H0 (mWh mt m N)) :=
  PS_wk (ps_while hp hc hb) fun D0 σ H h => by
    refine ⟨fun k σ H => rdS X.K H0 (mWh mt m k) D0 σ H, ⟨N, h⟩, fun k σ H h => ?_⟩
    obtain ⟨F, Γ, fl, Γ', R, z, q⟩ := h
    cases k with
    | zero => cases z
    | succ k =>
      obtain ⟨t, e1, z⟩ := Option.bind_eq_some_iff.mp z
      refine ⟨H0, F, Γ, t, R, e1, fun H1 F1 E1 => ?_⟩
      have G := Grow.ext R.h0 E1
      cases t with
      | false =>
        cases z
        exact iteF (q σ H1 F1 G (R.ext E1))
      | true =>
        refine iteT ⟨fun σ H => rdS X.K H0 (mWh mt m k) D0 σ H, fun σ' H' h => ⟨k, Nat.lt_succ_self _, h⟩, ?_⟩
        have z' : (match m Γ with
      | some (.nx, Γ1) => mWh mt m k Γ1
      | some (.ct, Γ1) => mWh mt m k Γ1
      | some (.bk, Γ1) => some (.nx, Γ1)
      | r => r) = some (fl, Γ') := z
        split at z'
        · rename_i Γ1 e2
          exact ⟨F1, Γ, .nx, Γ1, R.ext E1, e2, fun σ2 H2 F2 G2 R2 => ⟨F2, Γ1, fl, Γ', R2, z', fun σ3 H3 F3 G3 R3 => q σ3 H3 F3 ((G.trans G2).trans G3) R3⟩⟩
        · rename_i Γ1 e2
          exact ⟨F1, Γ, .ct, Γ1, R.ext E1, e2, fun σ2 H2 F2 G2 R2 => ⟨F2, Γ1, fl, Γ', R2, z', fun σ3 H3 F3 G3 R3 => q σ3 H3 F3 ((G.trans G2).trans G3) R3⟩⟩
        · rename_i Γ1 e2
          cases z'
          exact ⟨F1, Γ, .bk, _, R.ext E1, e2, fun σ2 H2 F2 G2 R2 => q σ2 H2 F2 (G.trans G2) R2⟩
        · rename_i h1 h2 h3
          cases fl with
          | nx => exact (h1 _ z').elim
          | ct => exact (h2 _ z').elim
          | bk => exact (h3 _ z').elim
          | rt d => exact ⟨F1, Γ, .rt d, Γ', R.ext E1, z', fun σ2 H2 F2 G2 R2 => q σ2 H2 F2 (G.trans G2) R2⟩
theorem s_for (hp : PassesOwn (model X.prog X.w) X.A X.env X.xe) (hc : X.calm = true) (hi : PI X tg iter (rdI X.K ml)) (hg : PG X tg (rdG X.K ws g)) (hb : PSs X body (rdS X.K H0 m))
    (hs : ∀ x, foldedSetIterable iter X.env x = pure x := by intro _; rfl) : PS X (.For tg iter body [] pos) (rdS X.K H0 (sFor ml g m)) :=
  PS_wk (ps_for hp hc hi hg hb hs) fun D0 σ H ⟨F, Γ, fl, Γ', R, z, q⟩ => by
    obtain ⟨xs, e1, z⟩ := Option.bind_eq_some_iff.mp z
    refine ⟨H0, F, Γ, xs, R, e1, fun J H1 F1 E1 ok => ?_⟩
    refine ⟨fun i k σ H => i + k = xs.length ∧ ∃ F2 Γ2, Same F1 F2 ∧ Rel X.K H0 F2 H σ Γ2 ∧ mFor g m (xs.drop i) Γ2 = some (fl, Γ') ∧ (∀ σ' H' F', Grow H0 F2 F' → Rel X.K H0 F' H' σ' Γ' → Fin X.K D0 σ' H' F' fl),
      ⟨xs.length, by omega, F1, Γ, .refl _, R.ext E1, by rw [List.drop_zero]; exact z, fun σ' H' F' G R' => q σ' H' F' ((Grow.ext R.h0 E1).trans G) R'⟩, fun i k σ H h => ?_⟩
    obtain ⟨hk, F2, Γ2, sF, R2, z2, q2⟩ := h
    by_cases hi : i < xs.length
    · rw [List.drop_eq_getElem_cons hi] at z2
      obtain ⟨Γ3, e3, z2⟩ := Option.bind_eq_some_iff.mp z2
      obtain ⟨gg, yy⟩ := ok.go F2 H i xs[i] sF R2.fh (List.getElem?_eq_getElem hi)
      refine .inr ⟨gg, ?_⟩
      refine ⟨fun σ H => ∃ k', k' < k ∧ (i + 1) + k' = xs.length ∧ ∃ F2 Γ2, Same F1 F2 ∧ Rel X.K H0 F2 H σ Γ2 ∧ mFor g m (xs.drop (i + 1)) Γ2 = some (fl, Γ') ∧ (∀ σ' H' F', Grow H0 F2 F' → Rel X.K H0 F' H' σ' Γ' → Fin X.K D0 σ' H' F' fl),
        fun σ' H' ⟨k', h1, h2, h3⟩ => ⟨k', h1, h2, h3⟩, fun x H' y => ?_⟩
      obtain ⟨F4, E4, r4⟩ := yy x H' y
      refine ⟨H0, F4, Γ2, xs[i], Γ3, R2.ext E4, r4, e3, fun σ5 R5 _ _ => ?_⟩
      have G4 := Grow.ext R2.h0 E4
      have z' : (match m Γ3 with
      | some (.nx, Γ2) => mFor g m (xs.drop (i + 1)) Γ2
      | some (.ct, Γ2) => mFor g m (xs.drop (i + 1)) Γ2
      | some (.bk, Γ2) => some (.nx, Γ2)
      | r => r) = some (fl, Γ') := z2
      split at z'
      · rename_i Γ6 e6
        exact ⟨F4, Γ3, .nx, Γ6, R5, e6, fun σ7 H7 F7 G7 R7 => ⟨k - 1, by omega, by omega, F7, Γ6, (sF.trans G4.1).trans G7.1, R7, z', fun σ' H' F' G R' => q2 σ' H' F' ((G4.trans G7).trans G) R'⟩⟩
      · rename_i Γ6 e6
        exact ⟨F4, Γ3, .ct, Γ6, R5, e6, fun σ7 H7 F7 G7 R7 => ⟨k - 1, by omega, by omega, F7, Γ6, (sF.trans G4.1).trans G7.1, R7, z', fun σ' H' F' G R' => q2 σ' H' F' ((G4.trans G7).trans G) R'⟩⟩
      · rename_i Γ6 e6
        cases z'
        exact ⟨F4, Γ3, .bk, _, R5, e6, fun σ7 H7 F7 G7 R7 => q2 σ7 H7 F7 (G4.trans G7) R7⟩
      · rename_i h1 h2 h3
        cases fl with
        | nx => exact (h1 _ z').elim
        | ct => exact (h2 _ z').elim
        | bk => exact (h3 _ z').elim
        | rt d => exact ⟨F4, Γ3, .rt d, Γ', R5, z', fun σ7 H7 F7 G7 R7 => q2 σ7 H7 F7 (G4.trans G7) R7⟩
    · have hl : i = xs.length := by omega
      subst hl
      rw [List.drop_length] at z2
      cases z2
      exact .inl ⟨ok.stop F2 H sF R2.fh, q2 σ H F2 .refl R2⟩
end

/-! ### a list of one's own is changed -/
def ownL (i : Nat) (Γ : En) : Option (List D) := match Γ[i]? with
  | some (.own (.lst xs)) => some xs
  | _ => none
theorem ownL_at {i : Nat} {Γ : En} {xs : List D} (h : ownL i Γ = some xs) : Γ[i]? = some (.own (.lst xs)) := by
  unfold ownL at h
  split at h
  · rename_i e
    cases h
    exact e
  · cases h
def sApp (i : Nat) (m : ME) : MS := fun Γ => (ownL i Γ).bind fun xs => (m Γ).bind fun d => if xs.length < LIM then some (.nx, Γ.set i (.own (.lst (xs ++ [d])))) else none
def lstOf : D → Option (List D)
  | .lst xs => some xs
  | _ => none
def sExt (i : Nat) (m : ME) : MS := fun Γ => (ownL i Γ).bind fun xs => ((m Γ).bind lstOf).bind fun ys => if xs.length + ys.length ≤ LIM then some (.nx, Γ.set i (.own (.lst (xs ++ ys)))) else none
def sSetIx (i : Nat) (k m : ME) : MS := fun Γ => (ownL i Γ).bind fun xs => (m Γ).bind fun d => ((k Γ).bind dI).bind fun n => (ixN xs.length n).map fun j => (.nx, Γ.set i (.own (.lst (xs.set j d))))
def sAugIx (i : Nat) (k : ME) (f : D → D → Option D) (m : ME) : MS := fun Γ => (ownL i Γ).bind fun xs => ((k Γ).bind dI).bind fun n => (ixN xs.length n).bind fun j => (xs[j]?).bind fun x => (m Γ).bind fun y => (f x y).map fun z => (.nx, Γ.set i (.own (.lst (xs.set j z))))
theorem if_someP {α : Type} {c : Prop} [Decidable c] {a b : α} (h : (if c then some a else none) = some b) : c ∧ b = a := by
  by_cases hc : c
  · rw [if_pos hc] at h; exact ⟨hc, (Option.some.inj h).symm⟩
  · rw [if_neg hc] at h; cases h
theorem Rel.lstAt {K : PySem.W.Frag} {H0 F H : Hp} {σ : L2.St} {Γ : En} (R : Rel K H0 F H σ Γ) {i : Nat} {xs : List D} (h : ownL i Γ = some xs) : ∃ a vs, Γ[i]? = some (.own (.lst xs)) ∧ σ[i]? = some (some (.ref a)) ∧ H a = some (.lst vs) ∧ F a = none ∧ RepL K F vs xs := by
  have hi := ownL_at h
  obtain ⟨_, a, ob, h1, h2, h3, h4, h5⟩ := R.ownAt hi
  cases h5 with
  | lst r => exact ⟨a, _, hi, h1, h4, h2, r⟩
section
variable {X : Cx} {H0 : Hp} {e k : Expr} {x : Str} {p apos cpos pos : Pos} {me mk : ME}
/-- st: xs.append(e); h: ps_expr (pe_bm .. mt_append (pv i) (pa_cons he pa_nil)) -/
theorem s_app {st : Stmt} {i : Nat} (h : PS X st (tDrop (tBM X.K "list" rAppend (tVar i) (tCons (rdE X.K me) tNil)))) : PS X st (rdS X.K H0 (sApp i me)) :=
  PS_wk h fun D0 σ H ⟨F, Γ, fl, Γ', R, z, q⟩ => by
    obtain ⟨xs, e1, z⟩ := Option.bind_eq_some_iff.mp z
    obtain ⟨d, e2, z⟩ := Option.bind_eq_some_iff.mp z
    obtain ⟨c, z⟩ := if_someP z
    cases z
    obtain ⟨a, vs, hi, h1, h2, h3, r⟩ := R.lstAt e1
    refine ⟨.ref a, h1, .inl ⟨rfl, vs, .of h2⟩, H0, F, Γ, d, R, e2, fun v H1 F1 E1 rv => ?_⟩
    refine ⟨a, vs, v, rfl, rfl, E1.h _ _ h2, by rw [r.length, ← lim_line]; exact c, ?_⟩
    exact q σ _ F1 (Grow.ext R.h0 E1) ((R.ext E1).updOwn hi h1 rfl (.lst ((r.mono E1.f).append (.cons rv .nil))))
theorem s_ext {st : Stmt} {i : Nat} (h : PS X st (tDrop (tBM X.K "list" rExtend (tVar i) (tCons (rdB X.K me) tNil)))) : PS X st (rdS X.K H0 (sExt i me)) :=
  PS_wk h fun D0 σ H ⟨F, Γ, fl, Γ', R, z, q⟩ => by
    obtain ⟨xs, e1, z⟩ := Option.bind_eq_some_iff.mp z
    obtain ⟨ys, e3, z⟩ := Option.bind_eq_some_iff.mp z
    obtain ⟨d, e2, e4⟩ := Option.bind_eq_some_iff.mp e3
    obtain ⟨c, z⟩ := if_someP z
    cases z
    obtain ⟨a, vs, hi, h1, h2, h3, r⟩ := R.lstAt e1
    refine ⟨.ref a, h1, .inl ⟨rfl, vs, .of h2⟩, H0, F, Γ, d, R, e2, fun v H1 F1 E1 rv => ?_⟩
    unfold lstOf at e4
    split at e4
    · cases e4
      obtain ⟨b, ws, rfl, g1, g2⟩ := rv.lst E1.fh
      refine ⟨a, b, vs, ws, rfl, rfl, E1.h _ _ h2, g1, by rw [r.length, g2.length, ← lim_line]; exact c, ?_⟩
      have r2 := (r.mono E1.f).append g2
      exact q σ _ F1 (Grow.ext R.h0 E1) ((R.ext E1).updOwn hi h1 rfl (.lst r2))
    · cases e4
/-- xs[k] = e; h: ps_asg he (pg_sub (pv i) hk set_list) -/
theorem s_setIx {st : Stmt} {i : Nat} (h : PS X st (tAsg (rdE X.K me) (gSub (tVar i) (rdB X.K mk) rSetL))) : PS X st (rdS X.K H0 (sSetIx i mk me)) :=
  PS_wk h fun D0 σ H ⟨F, Γ, fl, Γ', R, z, q⟩ => by
    obtain ⟨xs, e1, z⟩ := Option.bind_eq_some_iff.mp z
    obtain ⟨d, e2, z⟩ := Option.bind_eq_some_iff.mp z
    obtain ⟨n, e3, z⟩ := Option.bind_eq_some_iff.mp z
    obtain ⟨dk, e4, e6⟩ := Option.bind_eq_some_iff.mp e3
    rw [dI_some e6] at e4
    obtain ⟨j, e5, z⟩ := Option.map_eq_some_iff.mp z
    cases z
    obtain ⟨a, vs, hi, h1, h2, h3, r⟩ := R.lstAt e1
    refine ⟨H0, F, Γ, d, R, e2, fun v H1 F1 E1 rv => ⟨.ref a, h1, H0, F1, Γ, .int n, R.ext E1, e4, fun w H2 F2 E2 rw' => ?_⟩⟩
    have E := E1.trans E2
    refine ⟨a, vs, n, j, rfl, rw'.int, E.h _ _ h2, by rw [r.length]; exact e5, ?_⟩
    have r2 := (r.mono E.f).set j (rv.mono E2.f)
    exact q σ _ F2 (Grow.ext R.h0 E) ((R.ext E).updOwn hi h1 rfl (.lst r2))
def rGetL (K : PySem.W.Frag) : V → V → Hp → VK → Prop := fun x y H Q => ∃ p xs i v, x = .ref p ∧ y = .int i ∧ SqL K H p xs ∧ atI xs i = some v ∧ Q v H
theorem get_list : PGet X (rGetL X.K) := by
  intro pins s σ H x y v u Q I rx ry h
  obtain ⟨p, xs, i, z, rfl, rfl, hq, he, q⟩ := h
  cases rx
  obtain ⟨t, rfl⟩ := ry
  obtain ⟨its, r, pl, hz⟩ := I.list hq
  obtain ⟨j, h1, h2, h3, h4, h5⟩ := atI_get he
  obtain ⟨w, ew, rw'⟩ := r.get h2
  have hl := r.length
  have hn := line63
  by_cases h0 : 0 ≤ i
  · have hj : i.toNat = j := by
      rw [seqIndex_of h0 h5] at h1
      exact Option.some.inj h1
    exact wpAny_getItem_list pl.isList h0 (by omega) (by rw [hj]; simpa using ew) ⟨z, H, I, rw', q⟩
  · have hj : (i + (its.toArray.size : Int)).toNat = j := by
      rw [seqIndex_neg (by omega) h4] at h1
      rw [List.size_toArray, ← hl]
      exact Option.some.inj h1
    exact wpAny_getItem_list_neg pl.isList (by omega) (by rw [List.size_toArray] <;> omega) (by omega) (by rw [hj]; simpa using ew) ⟨z, H, I, rw', q⟩
/-- xs[k] op= e; h: ps_augS (pv i) hk get_list he ho set_list -/
theorem s_augIx {st : Stmt} {i : Nat} {f : D → D → Option D} {r : R2} (hf : Op2 X.K f r) (h : PS X st (tAugS (tVar i) (rdB X.K mk) (rdB X.K me) (rGetL X.K) r rSetL)) : PS X st (rdS X.K H0 (sAugIx i mk f me)) :=
  PS_wk h fun D0 σ H ⟨F, Γ, fl, Γ', R, z, q⟩ => by
    obtain ⟨xs, e1, z⟩ := Option.bind_eq_some_iff.mp z
    obtain ⟨n, e3, z⟩ := Option.bind_eq_some_iff.mp z
    obtain ⟨dk, e4, e6⟩ := Option.bind_eq_some_iff.mp e3
    rw [dI_some e6] at e4
    obtain ⟨j, e5, z⟩ := Option.bind_eq_some_iff.mp z
    obtain ⟨x, ex, z⟩ := Option.bind_eq_some_iff.mp z
    obtain ⟨y, ey, z⟩ := Option.bind_eq_some_iff.mp z
    obtain ⟨u, eu, z⟩ := Option.map_eq_some_iff.mp z
    cases z
    obtain ⟨a, vs, hi, h1, h2, h3, rr⟩ := R.lstAt e1
    refine ⟨.ref a, h1, H0, F, Γ, .int n, R, e4, fun w H1 F1 E1 rw' => ?_⟩
    obtain ⟨vx, g1, g2⟩ := rr.get ex
    refine ⟨a, vs, n, vx, rfl, rw'.int, .of (E1.h _ _ h2), by unfold atI; rw [rr.length, e5]; exact g1, H0, F1, Γ, y, R.ext E1, ey, fun vy H2 F2 E2 ry => ?_⟩
    refine hf F2 H2 vx vy x y u _ E2.fh (.inl ((g2.mono E1.f).mono E2.f)) ry eu fun vu H3 F3 E3 ru => ?_
    have E := (E1.trans E2).trans E3
    refine ⟨a, vs, n, j, rfl, rw'.int, E.h _ _ h2, by rw [rr.length]; exact e5, ?_⟩
    have r2 := (rr.mono E.f).set j ru
    exact q σ _ F3 (Grow.ext R.h0 E) ((R.ext E).updOwn hi h1 rfl (.lst r2))
end
end SK

set_option Elab.async false
set_option linter.all false
set_option maxRecDepth 100000
set_option maxHeartbeats 4000000
set_option autoImplicit false
namespace SK
open PySem PySem.Spec PyProof.Rows L2

/-! ### comprehensions -/
def wipeE (Γ : En) : List Nat → En
  | [] => Γ
  | v :: vs => (wipeE Γ vs).set v .emp
theorem Rel.setEmp {K : PySem.W.Frag} {H0 F H : Hp} {σ : L2.St} {Γ : En} (R : Rel K H0 F H σ Γ) (i : Nat) : Rel K H0 F H (σ.set i none) (Γ.set i .emp) := by
  refine ⟨R.h0, R.fh, by rw [List.length_set, List.length_set]; exact R.len, fun j s hj => ?_, fun j k d1 d2 a h1 h2 h3 h4 => ?_⟩
  · rcases set_get hj with ⟨rfl, rfl, hl⟩ | ⟨hne, hj⟩
    · exact ⟨none, get_set (by rw [R.len]; exact hl), trivial⟩
    · obtain ⟨o, q1, q2⟩ := R.sl j s hj
      exact ⟨o, by rw [get_set_ne hne]; exact q1, q2⟩
  · rcases set_get h1 with ⟨_, e, _⟩ | ⟨n1, h1⟩
    · cases e
    · rcases set_get h2 with ⟨_, e, _⟩ | ⟨n2, h2⟩
      · cases e
      · rw [get_set_ne n1] at h3; rw [get_set_ne n2] at h4
        exact R.sep j k d1 d2 a h1 h2 h3 h4
theorem Rel.wipe {K : PySem.W.Frag} {H0 F H : Hp} {σ : L2.St} {Γ : En} (R : Rel K H0 F H σ Γ) : ∀ vs : List Nat, Rel K H0 F H (L2.wipe σ vs) (wipeE Γ vs)
  | [] => R
  | v :: vs => (Rel.wipe R vs).setEmp v
theorem wipe_at (σ : L2.St) : ∀ (vs : List Nat) (i : Nat), (L2.wipe σ vs)[i]? = if i ∈ vs then (if i < σ.length then some none else none) else σ[i]?
  | [], i => by simp [L2.wipe]
  | v :: vs, i => by
    show ((L2.wipe σ vs).set v none)[i]? = _
    rw [List.getElem?_set, L2.wipe_length]
    by_cases h : v = i
    · subst h
      rw [if_pos rfl, if_pos List.mem_cons_self]
    · rw [if_neg h, wipe_at σ vs i]
      by_cases q : i ∈ vs
      · rw [if_pos q, if_pos (List.mem_cons_of_mem _ q)]
      · rw [if_neg q, if_neg (fun z => by rcases List.mem_cons.mp z with rfl | z; exact h rfl; exact q z)]
theorem wipe_off {σ σ' : L2.St} {ws vs : List Nat} (h : Off ws (L2.wipe σ vs) σ') (hw : ∀ i ∈ ws, i ∈ vs) : L2.wipe σ' vs = L2.wipe σ vs := by
  apply List.ext_getElem?
  intro i
  rw [wipe_at, wipe_at]
  have hl : σ'.length = σ.length := h.1.trans (L2.wipe_length _ _)
  by_cases q : i ∈ vs
  · rw [if_pos q, if_pos q, hl]
  · rw [if_neg q, if_neg q, h.2 i (fun z => q (hw i z)), wipe_at, if_neg q]
/-- the second clause's names are among the block's -/
theorem wipe_off2 {σ σ' : L2.St} {ws vs : List Nat} (h : Off ws (L2.wipe σ vs) σ') (hw : ∀ i ∈ ws, i ∈ vs) : L2.wipe σ' vs = L2.wipe σ vs := wipe_off h hw
theorem Ext.updNew {F H F' H' : Hp} (E : Ext F H F' H') {D : Addr} {o : HO} (n : H D = none) (f : F' D = none) : Ext F H F' (upd H' D o) := by
  refine ⟨E.f, fun b u e => ?_, fun b u e => ?_, E.new⟩
  · rw [upd_ne (ne_of_none e n)]; exact E.h _ _ e
  · rw [upd_ne (ne_of_none e f)]; exact E.fh _ _ e
theorem Ext.notIn {F H F' H' : Hp} (E : Ext F H F' H') {D : Addr} {o : HO} (h : H D = some o) (f : F D = none) (hn : ∀ xs, o ≠ .tup xs := by intro _ z; cases z) : F' D = none := by
  cases q : F' D with
  | none => rfl
  | some u =>
    rcases E.new D u q f with z | ⟨xs, z⟩
    · rw [h] at z; cases z
    · rw [h] at z; exact absurd (Option.some.inj z) (hn xs)

def mLcL (g : MG) (c : MT) (el : ME) (Γ : En) : List D → Option (List D)
  | [] => some []
  | x :: xs => (g x Γ).bind fun Γ1 => (c Γ1).bind fun t => if t then (el Γ1).bind fun y => (mLcL g c el Γ xs).map (y :: ·) else mLcL g c el Γ xs
def mYes : MT := fun _ => some true
def mLc (ml : ML) (g : MG) (c : MT) (el : ME) (vs : List Nat) : ME := fun Γ => (ml Γ).bind fun xs => (mLcL g c el (wipeE Γ vs) xs).bind fun ys => if ys.length ≤ LIM then some (.lst ys) else none
section
variable {X : Cx} {tg elt iter c : Expr} {ifs : List Expr} {scope : Scope} {own : List (Str × Nat)} {pos : Pos} {ml : ML} {g : MG} {mt : MT} {me : ME} {ws vs : List Nat}
theorem PTs_wk {X : Cx} {es : List Expr} {t t' : TT} (h : PTs X es t) (w : ∀ σ H Q, t' σ H Q → t σ H Q) : PTs X es t' := ⟨fun pins s σ H Q I q => h.run pins s σ H Q I (w _ _ _ q)⟩
theorem c_nil : PTs X [] (rdT X.K mYes) := PTs_wk pts_nil fun σ H Q ⟨H0, F, Γ, b, R, z, q⟩ => by cases z; exact q H F (.refl R.fh)
theorem c_one (h : PT X c (rdT X.K mt)) : PTs X [c] (rdT X.K mt) := pts_one h
/-- one clause: from the readings to HandS's -/
theorem lc_of {K : PySem.W.Frag} (hw : ∀ i ∈ ws, i ∈ vs) {σ H Q} (h : rdN K (mLc ml g mt me vs) σ H Q) : tLc (rdI K ml) (rdG K ws g) (rdT K mt) (rdE K me) vs σ H Q := by
  obtain ⟨H0, F, Γ, d, R, z, q⟩ := h
  obtain ⟨xs, e1, z⟩ := Option.bind_eq_some_iff.mp z
  obtain ⟨ys, e2, z⟩ := Option.bind_eq_some_iff.mp z
  obtain ⟨lim, rfl⟩ := if_some z
  refine ⟨H0, F, Γ, xs, R, e1, fun J H1 F1 E1 ok D nD => ?_⟩
  have R1 := R.ext E1
  have nF1 : F1 D = none := E1.fh.free nD
  refine ⟨fun i m H => i + m = xs.length ∧ ∃ F' acc done ys', Ext F1 H1 F' H ∧ F' D = none ∧ H D = some (.lst acc) ∧ RepL K F' acc done ∧ done ++ ys' = ys ∧ mLcL g mt me (wipeE Γ vs) (xs.drop i) = some ys',
    ⟨xs.length, by omega, F1, [], [], ys, Ext.own E1.fh nD, nF1, upd_same, .nil, rfl, by rw [List.drop_zero]; exact e2⟩, fun i m H h => ?_⟩
  obtain ⟨hm, F', acc, done, ys', E, fD, hD, rep, app, z2⟩ := h
  by_cases hi : i < xs.length
  · rw [List.drop_eq_getElem_cons hi] at z2
    obtain ⟨Γ1, e3, z2⟩ := Option.bind_eq_some_iff.mp z2
    obtain ⟨t, e4, z2⟩ := Option.bind_eq_some_iff.mp z2
    obtain ⟨gg, yy⟩ := ok.go F' H i xs[i] E.f E.fh (List.getElem?_eq_getElem hi)
    refine .inr ⟨gg, fun H => (i + 1) + (m - 1) = xs.length ∧ ∃ F' acc done ys', Ext F1 H1 F' H ∧ F' D = none ∧ H D = some (.lst acc) ∧ RepL K F' acc done ∧ done ++ ys' = ys ∧ mLcL g mt me (wipeE Γ vs) (xs.drop (i + 1)) = some ys',
      fun H' hN => ⟨m - 1, by omega, hN⟩, fun x H' y => ?_⟩
    obtain ⟨F2, E2, r2⟩ := yy x H' y
    have f2 := E2.notIn hD fD
    refine ⟨H0, F2, wipeE Γ vs, xs[i], Γ1, ((R1.ext E).ext E2).wipe vs, r2, e3, fun σ3 R3 off kept => ⟨wipe_off off hw, H0, F2, Γ1, t, R3, e4, fun H4 F4 E4 => ?_⟩⟩
    have f4 := E4.notIn (E2.h _ _ hD) f2
    have E24 := E2.trans E4
    have hD4 := E24.h _ _ hD
    cases t with
    | false => exact iteF ⟨by omega, F4, acc, done, ys', E.trans E24, f4, hD4, rep.mono E24.f, app, z2⟩
    | true =>
      obtain ⟨y, e5, z2⟩ := Option.bind_eq_some_iff.mp z2
      obtain ⟨ys2, e6, e7⟩ := Option.map_eq_some_iff.mp z2
      subst e7
      refine iteT ⟨H0, F4, Γ1, y, R3.ext E4, e5, fun v H5 F5 E5 rv => ⟨acc, E5.h _ _ hD4, ?_, by omega, F5, acc ++ [v], done ++ [y], ys2, ?_, E5.notIn hD4 f4, upd_same, ((rep.mono E24.f).mono E5.f).append (.cons rv .nil), ?_, e6⟩⟩
      · rw [rep.length, ← lim_line]
        have : ys.length = done.length + (ys2.length + 1) := by rw [← app, List.length_append, List.length_cons]
        omega
      · exact ((E.trans E24).trans E5).updNew nD (E5.notIn hD4 f4)
      · rw [List.append_assoc]; exact app
  · have hl : i = xs.length := by omega
    subst hl
    rw [List.drop_length] at z2
    cases z2
    rw [List.append_nil] at app
    subst app
    exact .inl ⟨ok.stop F' H E.f E.fh, q D (.lst acc) H F' (E1.trans E) (E1.h.free nD) fD hD rfl (.lst rep)⟩
theorem r_lc (hc : X.calm = true) (hN : X.N.Nodup) (hi : PI X tg iter (rdI X.K ml)) (ok : BlkOk X.N X.env.scope scope own)
    (hg : ∀ (s : Shared) (H : Hp) (C : Addr) (cl : List (Str × Addr)) (fp : List Addr), PG (X.blk s H scope (compEnvC scope cl C X.env) fp) tg (rdG X.K ws g)) (ht : ∀ (s : Shared) (H : Hp) (C : Addr) (cl : List (Str × Addr)) (fp : List Addr), PTs (X.blk s H scope (compEnvC scope cl C X.env) fp) ifs (rdT X.K mt))
    (he : ∀ (s : Shared) (H : Hp) (C : Addr) (cl : List (Str × Addr)) (fp : List Addr), PE (X.blk s H scope (compEnvC scope cl C X.env) fp) elt (rdE X.K me)) (hw : ∀ i ∈ ws, i ∈ own.map (·.2) := by decide) (hs : ∀ x, foldedSetIterable iter X.env x = pure x := by intro _; rfl) :
    PE X (.ListComp elt [⟨tg, iter, ifs, 0⟩] scope pos) (rdN X.K (mLc ml g mt me (own.map (·.2)))) :=
  PE.wk (pe_lc hc hN hi ok hg ht he hs) fun _ _ _ h => lc_of hw h
theorem set_of {K : PySem.W.Frag} {H0 : Hp} {m : ME} {t : TE} {i : Nat} (hm : ∀ σ H Q, rdN K m σ H Q → t σ H Q) {D0 : Ends} {σ : L2.St} {H : Hp} (h : rdS K H0 (sSet i (xO m)) D0 σ H) : tAsg t (gName i) D0 σ H := by
  obtain ⟨F, Γ, fl, Γ', R, z, q⟩ := h
  obtain ⟨s, e1, z⟩ := Option.map_eq_some_iff.mp z
  obtain ⟨d, e2, rfl⟩ := Option.map_eq_some_iff.mp e1
  cases z
  exact hm _ _ _ ⟨H0, F, Γ, d, R, e2, fun a o H' F' E n fa ha m r => q _ H' F' (Grow.ext R.h0 E) (R.setX E (s := .own d) ⟨m, a, o, rfl, n, fa, ha, r⟩ i)⟩
/-- name = [..] on one line -/
theorem s_setLc (i : Nat) {H0 : Hp} {y : Str} {py spos : Pos} (hc : X.calm = true) (hN : X.N.Nodup) (hi : PI X tg iter (rdI X.K ml)) (ok : BlkOk X.N X.env.scope scope own)
    (hg : ∀ (s : Shared) (H : Hp) (C : Addr) (cl : List (Str × Addr)) (fp : List Addr), PG (X.blk s H scope (compEnvC scope cl C X.env) fp) tg (rdG X.K ws g)) (ht : ∀ (s : Shared) (H : Hp) (C : Addr) (cl : List (Str × Addr)) (fp : List Addr), PTs (X.blk s H scope (compEnvC scope cl C X.env) fp) ifs (rdT X.K mt))
    (he : ∀ (s : Shared) (H : Hp) (C : Addr) (cl : List (Str × Addr)) (fp : List Addr), PE (X.blk s H scope (compEnvC scope cl C X.env) fp) elt (rdE X.K me))
    (hsw : swapsWith (.ListComp elt [⟨tg, iter, ifs, 0⟩] scope pos) (some (.Name y py)) spos.line X.env = pure true) (hy : X.N[i]? = some y := by rfl) (hyl : X.env.scope.names.lookup y = some .local := by rfl) (hw : ∀ i ∈ ws, i ∈ own.map (·.2) := by decide)
    (hs : ∀ x, foldedSetIterable iter X.env x = pure x := by intro _; rfl) : PS X (.Assign [.Name y py] (.ListComp elt [⟨tg, iter, ifs, 0⟩] scope pos) spos) (rdS X.K H0 (sSet i (xO (mLc ml g mt me (own.map (·.2)))))) :=
  PS_wk (ps_setLc hc hN hy hyl hsw hi ok hg ht he hs) fun _ _ _ h => set_of (fun _ _ _ h => lc_of hw h) h
end

/-! ### two clauses -/
def mLc2L (g : MG) (c : MT) (ml1 : ML) (g1 : MG) (c1 : MT) (el : ME) (vs1 : List Nat) (Γ : En) : List D → Option (List D)
  | [] => some []
  | x :: xs => (g x Γ).bind fun Γ1 => (c Γ1).bind fun t => if t then (ml1 Γ1).bind fun xs1 => (mLcL g1 c1 el (wipeE Γ1 vs1) xs1).bind fun ys => (mLc2L g c ml1 g1 c1 el vs1 Γ xs).map (ys ++ ·) else mLc2L g c ml1 g1 c1 el vs1 Γ xs
def mLc2 (ml : ML) (g : MG) (c : MT) (ml1 : ML) (g1 : MG) (c1 : MT) (el : ME) (vs vs1 : List Nat) : ME := fun Γ => (ml Γ).bind fun xs => (mLc2L g c ml1 g1 c1 el vs1 (wipeE Γ vs) xs).bind fun ys => if ys.length ≤ LIM then some (.lst ys) else none
section
variable {X : Cx} {tg elt iter tg1 iter1 c : Expr} {ifs ifs1 : List Expr} {scope : Scope} {own : List (Str × Nat)} {pos : Pos} {ml ml1 : ML} {g g1 : MG} {mt mt1 : MT} {me : ME} {ws ws1 vs vs1 : List Nat}
theorem lc2_of {K : PySem.W.Frag} (hw : ∀ i ∈ ws, i ∈ vs) (hw1 : ∀ i ∈ ws1, i ∈ vs1) {σ H Q} (h : rdN K (mLc2 ml g mt ml1 g1 mt1 me vs vs1) σ H Q) : tLc2 (rdI K ml) (rdG K ws g) (rdT K mt) (rdI K ml1) (rdG K ws1 g1) (rdT K mt1) (rdE K me) vs vs1 σ H Q := by
  obtain ⟨H0, F, Γ, d, R, z, q⟩ := h
  obtain ⟨xs, e1, z⟩ := Option.bind_eq_some_iff.mp z
  obtain ⟨ys, e2, z⟩ := Option.bind_eq_some_iff.mp z
  obtain ⟨lim, rfl⟩ := if_some z
  refine ⟨H0, F, Γ, xs, R, e1, fun J H1 F1 E1 ok D nD => ?_⟩
  have R1 := R.ext E1
  have nF1 : F1 D = none := E1.fh.free nD
  refine ⟨fun i m H => i + m = xs.length ∧ ∃ F' acc done ys', Ext F1 H1 F' H ∧ F' D = none ∧ H D = some (.lst acc) ∧ RepL K F' acc done ∧ done ++ ys' = ys ∧ mLc2L g mt ml1 g1 mt1 me vs1 (wipeE Γ vs) (xs.drop i) = some ys',
    ⟨xs.length, by omega, F1, [], [], ys, Ext.own E1.fh nD, nF1, upd_same, .nil, rfl, by rw [List.drop_zero]; exact e2⟩, fun i m H h => ?_⟩
  obtain ⟨hm, F', acc, done, ys', E, fD, hD, rep, app, z2⟩ := h
  by_cases hi : i < xs.length
  · rw [List.drop_eq_getElem_cons hi] at z2
    obtain ⟨Γ1, e3, z2⟩ := Option.bind_eq_some_iff.mp z2
    obtain ⟨t, e4, z2⟩ := Option.bind_eq_some_iff.mp z2
    obtain ⟨gg, yy⟩ := ok.go F' H i xs[i] E.f E.fh (List.getElem?_eq_getElem hi)
    refine .inr ⟨gg, fun H => (i + 1) + (m - 1) = xs.length ∧ ∃ F' acc done ys', Ext F1 H1 F' H ∧ F' D = none ∧ H D = some (.lst acc) ∧ RepL K F' acc done ∧ done ++ ys' = ys ∧ mLc2L g mt ml1 g1 mt1 me vs1 (wipeE Γ vs) (xs.drop (i + 1)) = some ys',
      fun H' hN => ⟨m - 1, by omega, hN⟩, fun x H' y => ?_⟩
    obtain ⟨F2, E2, r2⟩ := yy x H' y
    have f2 := E2.notIn hD fD
    refine ⟨H0, F2, wipeE Γ vs, xs[i], Γ1, ((R1.ext E).ext E2).wipe vs, r2, e3, fun σ3 R3 off kept => ⟨wipe_off off hw, H0, F2, Γ1, t, R3, e4, fun H4 F4 E4 => ?_⟩⟩
    have f4 := E4.notIn (E2.h _ _ hD) f2
    have E24 := E2.trans E4
    have hD4 := E24.h _ _ hD
    cases t with
    | false => exact iteF ⟨by omega, F4, acc, done, ys', E.trans E24, f4, hD4, rep.mono E24.f, app, z2⟩
    | true =>
      obtain ⟨xs1, e5, z2⟩ := Option.bind_eq_some_iff.mp z2
      obtain ⟨zs, e6, z2⟩ := Option.bind_eq_some_iff.mp z2
      obtain ⟨ys2, e7, e8⟩ := Option.map_eq_some_iff.mp z2
      subst e8
      refine iteT ⟨H0, F4, Γ1, xs1, R3.ext E4, e5, fun J1 H5 F5 E5 ok1 => ?_⟩
      have f5 := E5.notIn hD4 f4
      have E5' := (E.trans E24).trans E5
      have R5 := (R3.ext E4).ext E5
      refine ⟨fun j k H => j + k = xs1.length ∧ ∃ F' acc done ys', Ext F1 H1 F' H ∧ Same F5 F' ∧ Rel K H0 F' H σ3 Γ1 ∧ F' D = none ∧ H D = some (.lst acc) ∧ RepL K F' acc done ∧ done ++ (ys' ++ ys2) = ys ∧ mLcL g1 mt1 me (wipeE Γ1 vs1) (xs1.drop j) = some ys',
        ⟨xs1.length, by omega, F5, acc, done, zs, E5', .refl _, R5, f5, E5.h _ _ hD4, rep.mono (E24.trans E5).f, app, by rw [List.drop_zero]; exact e6⟩, fun j k H h => ?_⟩
      obtain ⟨hk, F6, acc6, done6, ys6, E6, s6, R6, f6, hD6, rep6, app6, z6⟩ := h
      by_cases hj : j < xs1.length
      · rw [List.drop_eq_getElem_cons hj] at z6
        obtain ⟨Γ7, e9, z6⟩ := Option.bind_eq_some_iff.mp z6
        obtain ⟨t7, e10, z6⟩ := Option.bind_eq_some_iff.mp z6
        obtain ⟨g7, y7⟩ := ok1.go F6 H j xs1[j] s6 E6.fh (List.getElem?_eq_getElem hj)
        refine .inr ⟨g7, fun H => (j + 1) + (k - 1) = xs1.length ∧ ∃ F' acc done ys', Ext F1 H1 F' H ∧ Same F5 F' ∧ Rel K H0 F' H σ3 Γ1 ∧ F' D = none ∧ H D = some (.lst acc) ∧ RepL K F' acc done ∧ done ++ (ys' ++ ys2) = ys ∧ mLcL g1 mt1 me (wipeE Γ1 vs1) (xs1.drop (j + 1)) = some ys',
          fun H' hN => ⟨k - 1, by omega, hN⟩, fun x1 H7 y1 => ?_⟩
        obtain ⟨F7, E7, r7⟩ := y7 x1 H7 y1
        have f7 := E7.notIn hD6 f6
        refine ⟨H0, F7, wipeE Γ1 vs1, xs1[j], Γ7, (R6.ext E7).wipe vs1, r7, e9, fun σ8 R8 off8 _ => ⟨wipe_off off8 hw1, H0, F7, Γ7, t7, R8, e10, fun H9 F9 E9 => ?_⟩⟩
        have f9 := E9.notIn (E7.h _ _ hD6) f7
        have E79 := E7.trans E9
        have hD9 := E79.h _ _ hD6
        cases t7 with
        | false => exact iteF ⟨by omega, F9, acc6, done6, ys6, E6.trans E79, s6.trans E79.f, R6.ext E79, f9, hD9, rep6.mono E79.f, app6, z6⟩
        | true =>
          obtain ⟨y, e11, z6⟩ := Option.bind_eq_some_iff.mp z6
          obtain ⟨ys10, e12, e13⟩ := Option.map_eq_some_iff.mp z6
          subst e13
          refine iteT ⟨H0, F9, Γ7, y, R8.ext E9, e11, fun v H10 F10 E10 rv => ?_⟩
          have fA := E10.notIn hD9 f9
          have EA := E79.trans E10
          refine ⟨acc6, E10.h _ _ hD9, ?_, by omega, F10, acc6 ++ [v], done6 ++ [y], ys10, ?_, s6.trans EA.f, ?_, fA, upd_same, (rep6.mono EA.f).append (.cons rv .nil), ?_, e12⟩
          · rw [rep6.length, ← lim_line]
            have : ys.length = done6.length + ((ys10.length + 1) + ys2.length) := by rw [← app6, List.length_append, List.length_append, List.length_cons]
            omega
          · exact (E6.trans EA).updNew nD fA
          · have RA := R6.ext EA
            exact RA.updOff fA (R1.h0.free nD) fun j e hj => by
              obtain ⟨k1, k2⟩ := kept j e hj
              rw [k2]
              exact (R1.wipe vs).newOff nD j e k1
          · rw [List.append_assoc]; exact app6
      · have hl : j = xs1.length := by omega
        subst hl
        rw [List.drop_length] at z6
        cases z6
        exact .inl ⟨ok1.stop F6 H s6 E6.fh, by omega, F6, acc6, done6, ys2, E6, f6, hD6, rep6, app6, e7⟩
  · have hl : i = xs.length := by omega
    subst hl
    rw [List.drop_length] at z2
    cases z2
    rw [List.append_nil] at app
    subst app
    exact .inl ⟨ok.stop F' H E.f E.fh, q D (.lst acc) H F' (E1.trans E) (E1.h.free nD) fD hD rfl (.lst rep)⟩
end
end SK

set_option Elab.async false
set_option linter.all false
set_option maxRecDepth 100000
set_option maxHeartbeats 4000000
set_option autoImplicit false
namespace SK
open PySem PySem.Spec PyProof.Rows L2

/-! ### a def -/
def runFn (np nn : Nat) (b : MS) : List D → Option D := fun ds => if ds.length = np then
    match b (ds.map Slot.val ++ List.replicate (nn - np) Slot.emp) with
    | some (.rt d, _) => some d
    | some (.nx, _) => some .non
    | _ => none
  else none
theorem start_rel {K : PySem.W.Frag} {F H : Hp} {vs : List V} {ds : List D} {N : List Str} (s : Same F H) (r : RepL K F vs ds) : Rel K H F H (L2.start N vs) (ds.map Slot.val ++ List.replicate (N.length - ds.length) Slot.emp) := by
  have hl := r.length
  have nown : ∀ (j : Nat) (e : D), (ds.map Slot.val ++ List.replicate (N.length - ds.length) Slot.emp)[j]? ≠ some (.own e) := fun j e h => by
    rw [List.getElem?_append] at h
    split at h
    · rw [List.getElem?_map] at h
      obtain ⟨d, _, h⟩ := Option.map_eq_some_iff.mp h
      cases h
    · rw [List.getElem?_replicate] at h
      split at h
      · cases h
      · cases h
  refine ⟨.refl _, s, ?_, fun i t hi => ?_, fun i j d e a h1 _ _ _ => (nown i d h1).elim⟩
  · unfold L2.start
    rw [List.length_append, List.length_append, List.length_map, List.length_map, List.length_replicate, List.length_replicate, hl]
  · unfold L2.start
    rw [List.getElem?_append, List.length_map] at hi
    rw [List.getElem?_append, List.length_map, hl]
    split at hi
    · rename_i c
      rw [if_pos c]
      rw [List.getElem?_map] at hi
      obtain ⟨d, e1, rfl⟩ := Option.map_eq_some_iff.mp hi
      obtain ⟨v, h1, h2⟩ := r.get e1
      exact ⟨some v, by rw [List.getElem?_map, h1]; rfl, v, rfl, h2⟩
    · rename_i c
      rw [if_neg c]
      rw [List.getElem?_replicate] at hi ⊢
      split at hi
      · rename_i c2
        cases hi
        exact ⟨none, by rw [if_pos c2], trivial⟩
      · cases hi
section
variable {P : Program} {w : World} {K : PySem.W.Frag} {mg : Str → Option Value} {base : Heap}
/-- a def keeps its promise: its body's derivation -/
theorem fn_ok {x qual : Str} {st : Stmt} {f : Addr} {fd : FuncData} {N ps : List Str} {k : Nat} {b : MS} (F : Fun K x qual st f fd) (S : FnScope N ps (defScope st))
    (body : ∀ (cdv : Value) (A : Around) (outer : List Env) (s : Shared) (H : Hp) (E : XK), Room k (A.deeper (envOfC qual (defScope st) s.heap.objs.size f cdv)) → PSs (cxOf CX0 P w K mg base N qual (defScope st) f cdv A outer s H E).nox (defBody st) (rdS K H b)) :
    FnOk P w K mg base CX0 (k + 1) f fd ps (spF K (runFn ps.length N.length b)) := by
  have hlen : ∀ vs H Q E, spF K (runFn ps.length N.length b) vs H Q E → vs.length = ps.length := fun vs H Q E h => by
    obtain ⟨F0, ds, d, s, r, e, q⟩ := h
    unfold runFn at e
    split at e
    · rename_i c; rw [r.length]; exact c
    · cases e
  refine F.ok S hlen fun cdv A outer s H vs Q E hr h => ⟨rdS K H b, body cdv A outer s H E hr, ?_⟩
  have hl := hlen vs H Q E h
  obtain ⟨F0, ds, d, sm, r, e, q⟩ := h
  unfold runFn at e
  rw [if_pos (r.length.symm.trans hl), show N.length - ps.length = N.length - ds.length by rw [← hl, r.length]] at e
  have R := start_rel (N := N) sm r
  split at e
  · rename_i d' Γ' e1
    cases e
    refine ⟨F0, _, .rt d, Γ', R, e1, fun σ1 H1 F1 G R1 v F' H' E1 rv => q v H' F' ?_ rv⟩
    exact Ext.trans ⟨G.1, R1.h0, R1.fh, G.2⟩ E1
  · rename_i Γ' e1
    cases e
    exact ⟨F0, _, .nx, Γ', R, e1, fun σ1 H1 F1 G R1 => q .non H1 F1 ⟨G.1, R1.h0, R1.fh, G.2⟩ .non⟩
  · cases e
/-- a mirror: where it answers, the def answers the same -/
def LeF (n m : List D → Option D) : Prop := ∀ x r, n x = some r → m x = some r
theorem okLe {f : Addr} {fd : FuncData} {ps : List Str} {k : Nat} {n m : List D → Option D} (G : FnOk P w K mg base CX0 k f fd ps (spF K m)) (h : LeF n m) : FnOk P w K mg base CX0 k f fd ps (spF K n) :=
  G.imp fun vs H Q E ⟨F, ds, d, s, r, e, q⟩ => ⟨F, ds, d, s, r, h _ _ e, q⟩
/-- the law's promise -/
def spLaw (K : PySem.W.Frag) : Sp := fun vs H Q _ => ∃ (a : Addr) (ns : List Int), vs = [.ref a] ∧ SqL K H a (ns.map V.int) ∧ ns.length ≤ 63 ∧ ∀ H', Q (.bl true) H'
theorem law_ok {f : Addr} {fd : FuncData} {ps : List Str} {k : Nat} {m : List D → Option D} (G : FnOk P w K mg base CX0 k f fd ps (spF K m)) (h : ∀ ns : List Int, ns.length ≤ 63 → m [.scr ns] = some (.bl true)) : FnOk P w K mg base CX0 k f fd ps (spLaw K) :=
  G.imp fun vs H Q E ⟨a, ns, e, hs, hl, q⟩ => ⟨H, [.scr ns], .bl true, .refl _, by rw [e]; exact .cons (.scr hs) .nil, h ns hl, fun v H' F' _ r => by rw [r.blI]; exact q H'⟩
end
end SK

set_option Elab.async false
set_option linter.all false
set_option maxRecDepth 100000
set_option maxHeartbeats 4000000
set_option autoImplicit false
namespace SK
open PySem PySem.Spec PyProof.Rows L2

/-! ### isinstance -/
inductive Ty where
  | int | bool | tuple | list | str
def Ty.nm : Ty → String
  | .int => "int" | .bool => "bool" | .tuple => "tuple" | .list => "list" | .str => "str"
def D.kd : D → Option String
  | .non => some "NoneType"
  | .bl _ => some "bool"
  | .int _ => some "int"
  | .str _ => some "str"
  | .tup _ => some "tuple"
  | .lst _ => some "list"
  | .scr _ => none
  | .dic _ _ => none
  | .dit _ _ => none
def isi : Ty → D → Option Bool
  | _, .scr _ => none
  | _, .dic _ _ => none
  | _, .dit _ _ => none
  | .int, .int _ => some true
  | .int, .bl _ => some true
  | .bool, .bl _ => some true
  | .tuple, .tup _ => some true
  | .list, .lst _ => some true
  | .str, .str _ => some true
  | _, _ => some false
def dIsi (t : Ty) (d : D) : Option D := (isi t d).map .bl
theorem tyOf_B {K : PySem.W.Frag} {F H : Hp} {v : V} {d : D} {k : String} (s : Same F H) (r : RepB K F H v d) (h : d.kd = some k) : TyOf K H v (.type k) := by
  cases d with
  | non => rw [r.non]; cases h; exact .non
  | bl a => rw [r.bl]; cases h; exact .bl a
  | int i => rw [r.int]; cases h; exact .int i
  | str x => rw [r.str]; cases h; exact .str x
  | tup xs =>
    obtain ⟨a, vs, rfl, h1, r1⟩ := r.tup
    cases h
    exact .tup (s _ _ h1)
  | lst xs =>
    obtain ⟨a, vs, rfl, h1, r1⟩ := r.lst s
    cases h
    exact .lst h1
  | scr ns => cases h
  | dic _ _ => cases h
  | dit _ _ => cases h
theorem isi_kit {K : PySem.W.Frag} {t : Ty} {d : D} {b : Bool} (h : isi t d = some b) : ∃ k, d.kd = some k ∧ PySem.W.kitOne K (.type k) (.type t.nm) = some b := by
  cases d with
  | scr ns => cases t <;> cases h
  | dic _ _ => cases t <;> cases h
  | dit _ _ => cases t <;> cases h
  | non => refine ⟨_, rfl, kit_ty ?_⟩; cases t <;> (cases h; decide +kernel)
  | bl a => refine ⟨_, rfl, kit_ty ?_⟩; cases t <;> (cases h; decide +kernel)
  | int i => refine ⟨_, rfl, kit_ty ?_⟩; cases t <;> (cases h; decide +kernel)
  | str x => refine ⟨_, rfl, kit_ty ?_⟩; cases t <;> (cases h; decide +kernel)
  | tup xs => refine ⟨_, rfl, kit_ty ?_⟩; cases t <;> (cases h; decide +kernel)
  | lst xs => refine ⟨_, rfl, kit_ty ?_⟩; cases t <;> (cases h; decide +kernel)
section
variable {X : Cx} {e : Expr} {x : Str} {p q pos : Pos} {me : ME}
theorem r_isi (t : Ty) (he : PE X e (rdB X.K me)) (hg : Gl X "isinstance") (hm : X.mg "isinstance" = none) (hx : Gl X x) (hmx : X.mg x = none) (hv : bootBuiltins x = some (.type t.nm)) (hxn : x ≠ "__name__" := by decide) (hxd : (x == ("__debug__" : Str)) = false := by decide)
    (h1 : starEach [e, .Name x q] X.env = (false, eval e X.env) :: starEach [.Name x q] X.env := by rfl) :
    PE X (.Call (.Name "isinstance" p) [e, .Name x q] [] pos) (rdE X.K (mUn (dIsi t) me)) :=
  PE.wk (pe_callB call_isi hg hm (by decide +kernel) (pa_cons he (pa_cons (pe_bltn (v := .ty t.nm) hx hmx hv rfl hxn hxd) pa_nil) h1) (he := h1)) fun σ H Q ⟨H0, F, Γ, d, R, z, qq⟩ => by
    obtain ⟨dx, ex, z⟩ := Option.bind_eq_some_iff.mp z
    obtain ⟨b, eb, rfl⟩ := Option.map_eq_some_iff.mp z
    refine ⟨H0, F, Γ, dx, R, ex, fun v H1 F1 E1 rv => ?_⟩
    obtain ⟨k, e1, e2⟩ := isi_kit (K := X.K) eb
    exact ⟨v, .ty t.nm, .type k, .type t.nm, b, rfl, .ty _, .base (tyOf_B E1.fh rv e1), e2, qq _ H1 F1 E1 (.bl _)⟩
end

/-! ### in, not in: flat items -/
def D.flat : D → Bool
  | .non => true
  | .bl _ => true
  | .int _ => true
  | .str _ => true
  | _ => false
theorem flat_rep {K : PySem.W.Frag} {F : Hp} {v : V} {d : D} (r : Rep K F v d) (h : d.flat = true) : flatV v = true := by
  cases r with
  | ob _ q => cases q <;> cases h
  | scr _ => cases h
  | _ => rfl
theorem eqV_rep {K : PySem.W.Frag} {F G : Hp} {v w : V} {d e : D} (r : Rep K F v d) (s : Rep K G w e) (h : d.flat = true) (k : e.flat = true) : eqV v w = D.eqb d e := by
  cases r with
  | ob _ q => cases q <;> cases h
  | scr _ => cases h
  | non => cases s with
    | ob _ q => cases q <;> cases k
    | scr _ => cases k
    | _ => simp only [eqV, D.eqb]
  | bl => cases s with
    | ob _ q => cases q <;> cases k
    | scr _ => cases k
    | _ => simp only [eqV, D.eqb]
  | int => cases s with
    | ob _ q => cases q <;> cases k
    | scr _ => cases k
    | _ => simp only [eqV, D.eqb]
  | str => cases s with
    | ob _ q => cases q <;> cases k
    | scr _ => cases k
    | _ => simp only [eqV, D.eqb]
theorem inV_rep {K : PySem.W.Frag} {F G : Hp} {w : V} {e : D} (s : Rep K G w e) (k : e.flat = true) : ∀ {vs : List V} {ds : List D}, RepL K F vs ds → ds.all D.flat = true → vs.all flatV = true ∧ inV w vs = ds.any fun d => D.eqb d e
  | _, _, .nil, _ => ⟨rfl, rfl⟩
  | _, _, .cons h r, a => by
    rw [List.all_cons] at a
    obtain ⟨a1, a2⟩ := Bool.and_eq_true_iff.mp a
    obtain ⟨i1, i2⟩ := inV_rep s k r a2
    refine ⟨by rw [List.all_cons, flat_rep h a1, i1]; rfl, ?_⟩
    unfold inV at i2 ⊢
    rw [List.any_cons, List.any_cons, i2, eqV_rep h s a1 k]
def dIn (x c : D) : Option D := (itemsD c).bind fun ds => if x.flat && ds.all D.flat then some (.bl (ds.any fun d => D.eqb d x)) else none
def dNotIn (x c : D) : Option D := (itemsD c).bind fun ds => if x.flat && ds.all D.flat then some (.bl (!ds.any fun d => D.eqb d x)) else none
theorem seq_B {K : PySem.W.Frag} {F H : Hp} {v : V} {d : D} {ds : List D} (s : Same F H) (r : RepB K F H v d) (h : itemsD d = some ds) : ∃ p vs, v = .ref p ∧ (SqL K H p vs ∨ SqT K H p vs) ∧ RepL K F vs ds := by
  unfold itemsD at h
  split at h
  · cases h
    obtain ⟨a, vs, rfl, h1, r1⟩ := r.tup
    exact ⟨a, vs, rfl, .inr (.of (s _ _ h1)), r1⟩
  · cases h
    obtain ⟨a, vs, rfl, h1, r1⟩ := r.lst s
    exact ⟨a, vs, rfl, .inl (.of h1), r1⟩
  · cases h
theorem flat_notM {d : D} (h : d.flat = true) : d.isM = false := by cases d <;> first | rfl | cases h
section
variable {K : PySem.W.Frag}
theorem d_in : Op2 K dIn (rIn K false) := by
  intro F H x y dx dy d Q s rx ry e q
  obtain ⟨ds, e1, e⟩ := Option.bind_eq_some_iff.mp e
  obtain ⟨c, rfl⟩ := ite_some e
  obtain ⟨c1, c2⟩ := Bool.and_eq_true_iff.mp c
  obtain ⟨p, vs, rfl, h1, r1⟩ := seq_B s ry e1
  have rx' := rx.full (flat_notM c1)
  obtain ⟨i1, i2⟩ := inV_rep rx' c1 r1 c2
  refine ⟨p, vs, rfl, h1, flat_rep rx' c1, i1, ?_⟩
  rw [i2]
  exact q _ H F (.refl s) (.bl _)
theorem d_notin : Op2 K dNotIn (rIn K true) := by
  intro F H x y dx dy d Q s rx ry e q
  obtain ⟨ds, e1, e⟩ := Option.bind_eq_some_iff.mp e
  obtain ⟨c, rfl⟩ := ite_some e
  obtain ⟨c1, c2⟩ := Bool.and_eq_true_iff.mp c
  obtain ⟨p, vs, rfl, h1, r1⟩ := seq_B s ry e1
  have rx' := rx.full (flat_notM c1)
  obtain ⟨i1, i2⟩ := inV_rep rx' c1 r1 c2
  refine ⟨p, vs, rfl, h1, flat_rep rx' c1, i1, ?_⟩
  rw [i2]
  exact q _ H F (.refl s) (.bl _)
/-! ### a list times an int -/
def dRepL : D → D → Option D
  | .lst xs, .int k => if okR 0 k && decide (xs.length * k.toNat ≤ LIM) then some (.lst (List.replicate k.toNat xs).flatten) else none
  | _, _ => none
theorem d_repL : Op2N K dRepL rRep := by
  intro F H x y dx dy d Q s rx ry e q
  unfold dRepL at e
  split at e
  · obtain ⟨c, rfl⟩ := ite_some e
    obtain ⟨c1, c2⟩ := Bool.and_eq_true_iff.mp c
    obtain ⟨b1, b2, b3, b4⟩ := okR_bounds c1
    have c2 := of_decide_eq_true c2
    obtain ⟨a, vs, rfl, h1, r1⟩ := rx.lst s
    have p63 : (2 : Int) ^ 63 = 9223372036854775808 := by decide
    refine ⟨a, _, vs, rfl, ry.int, h1, by rw [p63]; omega, by rw [p63]; omega, by rw [r1.length, ← lim_line]; exact c2, fun p np => ?_⟩
    exact q p _ _ F (Ext.own s np) np (s.free np) upd_same rfl (.lst (r1.flatRep _))
  · cases e
end

/-! ### range(i, j, c), enumerate, zip -/
def stepD (lo c : Int) (n : Nat) : List D := (List.range n).map fun i => D.int (lo + (i : Nat) * c)
theorem stepD_get {lo c : Int} {n i : Nat} {d : D} (e : (stepD lo c n)[i]? = some d) : i < n ∧ d = .int (lo + (i : Nat) * c) := by
  unfold stepD at e
  rw [List.getElem?_map] at e
  obtain ⟨j, e1, rfl⟩ := Option.map_eq_some_iff.mp e
  obtain ⟨h1, h2⟩ := List.getElem?_eq_some_iff.mp e1
  rw [List.length_range] at h1
  rw [List.getElem_range] at h2
  exact ⟨h1, by rw [← h2]⟩
theorem stepD_len (lo c : Int) (n : Nat) : (stepD lo c n).length = n := by unfold stepD; rw [List.length_map, List.length_range]
def rngN (i j c : Int) : Nat := (Builtin.Range.rangeSize i j c).toNat
def okC (i j c : Int) : Bool := decide (c ≠ 0) && decide (c.natAbs < 1073741824) && Builtin.Range.small i j c && decide (0 ≤ Builtin.Range.rangeSize i j c)
def mRng3 (a b c : ME) : ML := fun Γ => ((a Γ).bind dI).bind fun i => ((b Γ).bind dI).bind fun j => ((c Γ).bind dI).bind fun k => if okC i j k then some (stepD i k (rngN i j k)) else none
theorem bl3 {K : PySem.W.Frag} {F H : Hp} {vs : List V} {d e f : D} (r : RepBL K F H vs [d, e, f]) : ∃ v w u, vs = [v, w, u] ∧ RepB K F H v d ∧ RepB K F H w e ∧ RepB K F H u f := by
  cases r with | cons h r => cases r with | cons h2 r => cases r with | cons h3 r => cases r; exact ⟨_, _, _, rfl, h, h2, h3⟩
/-- what is told in pairs -/
def PairOk (K : PySem.W.Frag) (J : It) (xs ys : List D) : Prop := True
def enumD (xs : List D) : List D := (List.range xs.length).map fun (i : Nat) => D.tup [.int i, xs.getD i .non]
def zipD (xs ys : List D) : List D := (xs.zip ys).map fun p => D.tup [p.1, p.2]
def mEnum (m : ME) : ML := fun Γ => (mItems m Γ).map enumD
def mZip (a b : ME) : ML := fun Γ => (mItems a Γ).bind fun xs => (mItems b Γ).map fun ys => zipD xs ys
section
variable {X : Cx} {tg e e2 a b c : Expr} {elts : List Expr} {kk : Nat} {p pos tpos : Pos} {ma mb mc : ME}
theorem i_rng3 (hg : Gl X "range") (hm : X.mg "range" = none) (ha : PE X a (rdB X.K ma)) (hb : PE X b (rdB X.K mb)) (hc : PE X c (rdB X.K mc)) (na : starEach [a, b, c] X.env = (false, eval a X.env) :: starEach [b, c] X.env := by rfl)
    (nb : starEach [b, c] X.env = (false, eval b X.env) :: starEach [c] X.env := by rfl) (nc : starEach [c] X.env = (false, eval c X.env) :: starEach [] X.env := by rfl) :
    PI X tg (.Call (.Name "range" p) [a, b, c] [] pos) (rdI X.K (mRng3 ma mb mc)) :=
  PI_wk (pi_range3 hg hm (r_bcons ha (r_bcons hb (r_bcons hc r_bnil nc) nb) na) na (by rw [nb, nc]; rfl)) fun σ H R ⟨H0, F, Γ, xs, R0, z, q⟩ => by
    obtain ⟨i, e1, z⟩ := Option.bind_eq_some_iff.mp z
    obtain ⟨d, e2, e3⟩ := Option.bind_eq_some_iff.mp e1
    rw [dI_some e3] at e2
    obtain ⟨j, f1, z⟩ := Option.bind_eq_some_iff.mp z
    obtain ⟨d', f2, f3⟩ := Option.bind_eq_some_iff.mp f1
    rw [dI_some f3] at f2
    obtain ⟨k, g1, z⟩ := Option.bind_eq_some_iff.mp z
    obtain ⟨d'', g2, g3⟩ := Option.bind_eq_some_iff.mp g1
    rw [dI_some g3] at g2
    obtain ⟨c, rfl⟩ := ite_someL z
    unfold okC at c
    rw [Bool.and_eq_true, Bool.and_eq_true, Bool.and_eq_true, decide_eq_true_eq, decide_eq_true_eq, decide_eq_true_eq] at c
    refine ⟨H0, F, Γ, [.int i, .int j, .int k], R0, by simp only [mCons, mNil, e2, f2, g2, Option.bind_some], fun vs H' F' E r => ?_⟩
    obtain ⟨v, w, u, rfl, r1, r2, r3⟩ := bl3 r
    refine ⟨i, j, k, rngN i j k, by rw [r1.int, r2.int, r3.int], ⟨c.1.1.1, c.1.1.2, c.1.2, (Int.toNat_of_nonneg c.2).symm⟩, q _ H' F' E ?_⟩
    refine ⟨fun F H n d s1 s2 e => ?_, fun F H s1 s2 => by rw [stepD_len]; exact Nat.le_refl _⟩
    obtain ⟨h1, rfl⟩ := stepD_get e
    refine ⟨h1, fun x H' y => ?_⟩
    obtain ⟨rfl, rfl⟩ := y
    exact ⟨F, .refl s2, .int _⟩
theorem pair_new {K : PySem.W.Frag} {F H : Hp} {T : Addr} {x y : V} {dx dy : D} (s : Same F H) (n : H T = none) (rx : Rep K F x dx) (ry : Rep K F y dy) : ∃ F', Ext F H F' (upd H T (.tup [x, y])) ∧ Rep K F' (.ref T) (.tup [dx, dy]) := by
  have E := Ext.laid s (o := .tup [x, y]) n
  exact ⟨_, E, .ob upd_same (.tup (.cons (rx.mono E.f) (.cons (ry.mono E.f) .nil)))⟩
theorem enumD_get {xs : List D} {i : Nat} {d : D} (e : (enumD xs)[i]? = some d) : ∃ x, xs[i]? = some x ∧ d = .tup [.int (i : Nat), x] := by
  unfold enumD at e
  rw [List.getElem?_map] at e
  obtain ⟨j, e1, rfl⟩ := Option.map_eq_some_iff.mp e
  obtain ⟨h1, h2⟩ := List.getElem?_eq_some_iff.mp e1
  rw [List.length_range] at h1
  rw [List.getElem_range] at h2
  subst h2
  exact ⟨xs[i], List.getElem?_eq_getElem h1, by rw [List.getD_eq_getElem?_getD, List.getElem?_eq_getElem h1]; rfl⟩
theorem enumD_len (xs : List D) : (enumD xs).length = xs.length := by unfold enumD; rw [List.length_map, List.length_range]
theorem ite_ok {K : PySem.W.Frag} {F1 : Hp} {a : Addr} {vs : List V} {xs : List D} (h : F1 a = some (.lst vs)) (r : RepL K F1 vs xs) : ItOk K F1 (Ite K a) (enumD xs) := by
  refine ⟨fun F H i d s1 s2 e => ?_, fun F H s1 s2 => ⟨vs, .of (s2 _ _ (s1 _ _ h)), by rw [r.length, enumD_len]; exact Nat.le_refl _⟩⟩
  obtain ⟨x, e1, rfl⟩ := enumD_get e
  obtain ⟨v, h1, h2⟩ := r.get e1
  have hq : SqL K H a vs := .of (s2 _ _ (s1 _ _ h))
  refine ⟨⟨vs, v, hq, h1⟩, fun y H' yy => ?_⟩
  obtain ⟨T, z, rfl, n, rfl, yy⟩ := yy
  have := yy vs hq
  rw [h1] at this
  cases this
  exact pair_new s2 n (.int _) (h2.mono s1)
theorem zipD_get {xs ys : List D} {i : Nat} {d : D} (e : (zipD xs ys)[i]? = some d) : ∃ x y, xs[i]? = some x ∧ ys[i]? = some y ∧ d = .tup [x, y] := by
  unfold zipD at e
  rw [List.getElem?_map] at e
  obtain ⟨⟨x, y⟩, e1, rfl⟩ := Option.map_eq_some_iff.mp e
  obtain ⟨h1, h2⟩ := List.getElem?_zip_eq_some.mp e1
  exact ⟨x, y, h1, h2, rfl⟩
theorem zipD_len (xs ys : List D) : (zipD xs ys).length = min xs.length ys.length := by unfold zipD; rw [List.length_map, List.length_zip]
theorem itz_ok {K : PySem.W.Frag} {F1 : Hp} {a b : Addr} {vs ws : List V} {xs ys : List D} (h : F1 a = some (.lst vs)) (h' : F1 b = some (.lst ws)) (r : RepL K F1 vs xs) (r' : RepL K F1 ws ys) : ItOk K F1 (Itz K a b) (zipD xs ys) := by
  refine ⟨fun F H i d s1 s2 e => ?_, fun F H s1 s2 => ⟨vs, ws, .of (s2 _ _ (s1 _ _ h)), .of (s2 _ _ (s1 _ _ h')), by rw [r.length, r'.length, zipD_len]; omega⟩⟩
  obtain ⟨x, y, e1, e2, rfl⟩ := zipD_get e
  obtain ⟨v, h1, h2⟩ := r.get e1
  obtain ⟨w, g1, g2⟩ := r'.get e2
  have hq : SqL K H a vs := .of (s2 _ _ (s1 _ _ h))
  have hq' : SqL K H b ws := .of (s2 _ _ (s1 _ _ h'))
  refine ⟨⟨vs, ws, v, w, hq, hq', h1, g1⟩, fun y H' yy => ?_⟩
  obtain ⟨T, z, z', rfl, n, rfl, yy, yy'⟩ := yy
  have e1 := yy vs hq
  rw [h1] at e1
  cases e1
  have e2 := yy' ws hq'
  rw [g1] at e2
  cases e2
  exact pair_new s2 n (h2.mono s1) (g2.mono s1)
theorem itzT_ok {K : PySem.W.Frag} {F1 : Hp} {a b : Addr} {vs ws : List V} {xs ys : List D} (h : F1 a = some (.tup vs)) (h' : F1 b = some (.tup ws)) (r : RepL K F1 vs xs) (r' : RepL K F1 ws ys) : ItOk K F1 (RZ.ItzT K a b) (zipD xs ys) := by
  refine ⟨fun F H i d s1 s2 e => ?_, fun F H s1 s2 => ⟨vs, ws, .of (s2 _ _ (s1 _ _ h)), .of (s2 _ _ (s1 _ _ h')), by rw [r.length, r'.length, zipD_len]; omega⟩⟩
  obtain ⟨x, y, e1, e2, rfl⟩ := zipD_get e
  obtain ⟨v, h1, h2⟩ := r.get e1
  obtain ⟨w, g1, g2⟩ := r'.get e2
  have hq : SqT K H a vs := .of (s2 _ _ (s1 _ _ h))
  have hq' : SqT K H b ws := .of (s2 _ _ (s1 _ _ h'))
  refine ⟨⟨vs, ws, v, w, hq, hq', h1, g1⟩, fun y H' yy => ?_⟩
  obtain ⟨T, z, z', rfl, n, rfl, yy, yy'⟩ := yy
  have e1 := yy vs hq
  rw [h1] at e1
  cases e1
  have e2 := yy' ws hq'
  rw [g1] at e2
  cases e2
  exact pair_new s2 n (h2.mono s1) (g2.mono s1)
/-- two lists, two tuples -/
def zipIn : D → D → Option (List D)
  | .lst xs, .lst ys => some (zipD xs ys)
  | .tup xs, .tup ys => some (zipD xs ys)
  | _, _ => none
def mZipA (a b : ME) : ML := fun Γ => (a Γ).bind fun x => (b Γ).bind fun y => zipIn x y
theorem i_zip (hg : Gl X "zip") (hm : X.mg "zip" = none) (ha : PE X e (rdE X.K ma)) (hb : PE X e2 (rdE X.K mb)) (hs : starEach [e, e2] X.env = (false, eval e X.env) :: starEach [e2] X.env := by rfl)
    (hs2 : starEach [e2] X.env = (false, eval e2 X.env) :: starEach [] X.env := by rfl) (hpl : ∀ p, (backTo p (starEach [e2] X.env)).any (·.1) = false := by intro _; rfl) :
    PI X (.Tuple elts kk tpos) (.Call (.Name "zip" p) [e, e2] [] pos) (rdI X.K (mZipA ma mb)) :=
  PI_wk (RZ.pi_zipA hg hm (r_pcons ha (r_pcons hb r_pnil hs2) hs) hs (hpl _)) fun σ H R ⟨H0, F, Γ, xs, R0, z, q⟩ => by
    obtain ⟨x, e1, z⟩ := Option.bind_eq_some_iff.mp z
    obtain ⟨y, e2, z⟩ := Option.bind_eq_some_iff.mp z
    refine ⟨H0, F, Γ, [x, y], R0, by simp only [mCons, mNil, e1, e2, Option.bind_some], fun vs H' F' E r => ?_⟩
    cases r with
    | cons r1 r =>
      cases r with
      | cons r2 r =>
        cases r
        unfold zipIn at z
        split at z
        · cases z
          obtain ⟨a, us, rfl, h1, q1⟩ := r1.lstI
          obtain ⟨b, ws, rfl, h2, q2⟩ := r2.lstI
          exact ⟨a, b, us, ws, rfl, .inl ⟨.of (E.fh _ _ h1), .of (E.fh _ _ h2), q _ H' F' E (itz_ok h1 h2 q1 q2)⟩⟩
        · cases z
          obtain ⟨a, us, rfl, h1, q1⟩ := r1.tupI
          obtain ⟨b, ws, rfl, h2, q2⟩ := r2.tupI
          exact ⟨a, b, us, ws, rfl, .inr ⟨.of (E.fh _ _ h1), .of (E.fh _ _ h2), q _ H' F' E (itzT_ok h1 h2 q1 q2)⟩⟩
        · cases z
/-- enumerate of a list -/
def lstIn : D → Option (List D)
  | .lst xs => some (enumD xs)
  | _ => none
def mEnumL (a : ME) : ML := fun Γ => (a Γ).bind lstIn
theorem i_enumL (hg : Gl X "enumerate") (hm : X.mg "enumerate" = none) (ha : PE X e (rdE X.K ma)) (hs2 : starEach [e] X.env = (false, eval e X.env) :: starEach [] X.env := by rfl) : PI X (.Tuple elts kk tpos) (.Call (.Name "enumerate" p) [e] [] pos) (rdI X.K (mEnumL ma)) :=
  PI_wk (pi_enum hg hm (r_pcons ha r_pnil hs2) hs2) fun σ H R ⟨H0, F, Γ, xs, R0, z, q⟩ => by
    obtain ⟨x, e1, z⟩ := Option.bind_eq_some_iff.mp z
    refine ⟨H0, F, Γ, [x], R0, by simp only [mCons, mNil, e1, Option.bind_some], fun vs H' F' E r => ?_⟩
    cases r with
    | cons r1 r =>
      cases r
      unfold lstIn at z
      split at z
      · cases z
        obtain ⟨a, us, rfl, h1, q1⟩ := r1.lstI
        exact ⟨a, us, rfl, .of (E.fh _ _ h1), q _ H' F' E (ite_ok h1 q1)⟩
      · cases z
end
end SK

set_option Elab.async false
set_option linter.all false
set_option maxRecDepth 100000
set_option maxHeartbeats 4000000
set_option autoImplicit false
namespace SK
open PySem PySem.Spec PyProof.Rows L2
section
variable {P : Program} {w : World} {K : PySem.W.Frag} {mg : Str → Option Value} {base : Heap}
theorem never_ok {k : Nat} {f : Addr} {fd : FuncData} {ps : List Str} : FnOk P w K mg base CX0 k f fd ps (spF K fun _ => none) :=
  ⟨fun vs H Q E ⟨F, ds, d, _, _, e, _⟩ => (by cases e), fun A outer s H args us vs Q E _ _ _ _ h => by
    obtain ⟨F, ds, d, _, _, e, _⟩ := h
    cases e⟩
def dAddI := fI fun i j => some (.int (i + j))
theorem d_addI : Op2 K dAddI (rI0 fun i j => .int (i + j)) := op2I0 fun _ _ _ h => some_eq h
end
/-! a new list that is never changed -/
def sSetF (i : Nat) (m : ME) : MS := fun Γ => (m Γ).map fun d => (.nx, Γ.set i (.val d))
theorem frz1_set (i : Nat) (Γ : En) (d : D) : frz1 i (Γ.set i (.own d)) = Γ.set i (.val d) := by
  unfold frz1
  by_cases h : i < Γ.length
  · rw [get_set h]
    show (Γ.set i (.own d)).set i (.val d) = _
    rw [List.set_set]
  · rw [List.set_eq_of_length_le (Nat.le_of_not_lt h), List.set_eq_of_length_le (Nat.le_of_not_lt h), List.getElem?_eq_none (Nat.le_of_not_lt h)]
section
variable {X : Cx} {H0 : Hp} {st : Stmt} {m : ME} {i : Nat}
theorem s_setF (h : PS X st (rdS X.K H0 (sSet i (xO m)))) : PS X st (rdS X.K H0 (sSetF i m)) := ⟨fun pins s σ H D0 I ⟨F, Γ, fl, Γ', R, z, q⟩ => by
  obtain ⟨d, e1, z⟩ := Option.map_eq_some_iff.mp z
  cases z
  refine thn (h.run pins s σ H ⟨fun σ1 H1 => ∃ F1, Grow H0 F F1 ∧ Rel X.K H0 F1 H1 σ1 (Γ.set i (.own d)), D0.rt, D0.bk, D0.ct⟩ I ⟨F, Γ, .nx, Γ.set i (.own d), R, (by unfold sSet xO; rw [e1]; rfl), fun σ1 H1 F1 G1 R1 => ⟨F1, G1, R1⟩⟩) fun f s1 q1 => ?_
  cases f with
  | next =>
    obtain ⟨σ', H', I2, F1, G1, R1⟩ := q1
    by_cases hi : i < Γ.length
    · have hg : (Γ.set i (.own d))[i]? = some (.own d) := get_set hi
      obtain ⟨m0, a, ob, h1, h2, h3, h4, h5⟩ := R1.ownAt hg
      obtain ⟨o', I3, r2⟩ := Inv_give I2 h4 h2 h5
      obtain ⟨s2, n2, R2⟩ := R1.freezeTo hg h1 h2 h3 r2
      rw [List.set_set] at R2
      exact ⟨σ', _, I3, q σ' _ _ (G1.trans ⟨s2, n2⟩) R2⟩
    · rw [List.set_eq_of_length_le (Nat.le_of_not_lt hi)] at R1
      rw [List.set_eq_of_length_le (Nat.le_of_not_lt hi)] at q
      exact ⟨σ', H', I2, q σ' H' F1 G1 R1⟩
  | brk => exact q1
  | cont => exact q1
  | ret v => exact q1⟩
end
/-! two clauses -/
section
variable {X : Cx} {tg elt iter tg1 iter1 c : Expr} {ifs ifs1 : List Expr} {scope : Scope} {own : List (Str × Nat)} {pos : Pos} {ml ml1 : ML} {g g1 : MG} {mt mt1 : MT} {me : ME} {ws ws1 vs1 : List Nat}
theorem r_lc2 (hc : X.calm = true) (hN : X.N.Nodup) (hi : PI X tg iter (rdI X.K ml)) (ok : BlkOk X.N X.env.scope scope own) (hv : ∀ i ∈ vs1, i ∈ own.map (·.2))
    (hg : ∀ (s : Shared) (H : Hp) (C : Addr) (cl : List (Str × Addr)) (fp : List Addr), PG (X.blk s H scope (compEnvC scope cl C X.env) fp) tg (rdG X.K ws g)) (ht : ∀ (s : Shared) (H : Hp) (C : Addr) (cl : List (Str × Addr)) (fp : List Addr), PTs (X.blk s H scope (compEnvC scope cl C X.env) fp) ifs (rdT X.K mt))
    (hi1 : ∀ (s : Shared) (H : Hp) (C : Addr) (cl : List (Str × Addr)) (fp : List Addr), PI (X.blk s H scope (compEnvC scope cl C X.env) fp) tg1 iter1 (rdI X.K ml1))
    (hg1 : ∀ (s : Shared) (H : Hp) (C : Addr) (cl : List (Str × Addr)) (fp : List Addr), PG (X.blk s H scope (compEnvC scope cl C X.env) fp) tg1 (rdG X.K ws1 g1)) (ht1 : ∀ (s : Shared) (H : Hp) (C : Addr) (cl : List (Str × Addr)) (fp : List Addr), PTs (X.blk s H scope (compEnvC scope cl C X.env) fp) ifs1 (rdT X.K mt1))
    (he : ∀ (s : Shared) (H : Hp) (C : Addr) (cl : List (Str × Addr)) (fp : List Addr), PE (X.blk s H scope (compEnvC scope cl C X.env) fp) elt (rdE X.K me)) (hw : ∀ i ∈ ws, i ∈ own.map (·.2) := by decide) (hw1 : ∀ i ∈ ws1, i ∈ vs1 := by decide)
    (hs : ∀ x, foldedSetIterable iter X.env x = pure x := by intro _; rfl) (hs1 : ∀ env x, foldedSetIterable iter1 env x = pure x := by intro _ _; rfl) :
    PE X (.ListComp elt [⟨tg, iter, ifs, 0⟩, ⟨tg1, iter1, ifs1, 0⟩] scope pos) (rdN X.K (mLc2 ml g mt ml1 g1 mt1 me (own.map (·.2)) vs1)) :=
  PE.wk (pe_lc2 hc hN hi ok hv hg ht hi1 hg1 ht1 he hs hs1) fun _ _ _ h => lc2_of hw hw1 h
theorem s_setLc2 (i : Nat) {H0 : Hp} {y : Str} {py spos : Pos} (hc : X.calm = true) (hN : X.N.Nodup) (hi : PI X tg iter (rdI X.K ml)) (ok : BlkOk X.N X.env.scope scope own) (hv : ∀ i ∈ vs1, i ∈ own.map (·.2))
    (hg : ∀ (s : Shared) (H : Hp) (C : Addr) (cl : List (Str × Addr)) (fp : List Addr), PG (X.blk s H scope (compEnvC scope cl C X.env) fp) tg (rdG X.K ws g)) (ht : ∀ (s : Shared) (H : Hp) (C : Addr) (cl : List (Str × Addr)) (fp : List Addr), PTs (X.blk s H scope (compEnvC scope cl C X.env) fp) ifs (rdT X.K mt))
    (hi1 : ∀ (s : Shared) (H : Hp) (C : Addr) (cl : List (Str × Addr)) (fp : List Addr), PI (X.blk s H scope (compEnvC scope cl C X.env) fp) tg1 iter1 (rdI X.K ml1))
    (hg1 : ∀ (s : Shared) (H : Hp) (C : Addr) (cl : List (Str × Addr)) (fp : List Addr), PG (X.blk s H scope (compEnvC scope cl C X.env) fp) tg1 (rdG X.K ws1 g1)) (ht1 : ∀ (s : Shared) (H : Hp) (C : Addr) (cl : List (Str × Addr)) (fp : List Addr), PTs (X.blk s H scope (compEnvC scope cl C X.env) fp) ifs1 (rdT X.K mt1))
    (he : ∀ (s : Shared) (H : Hp) (C : Addr) (cl : List (Str × Addr)) (fp : List Addr), PE (X.blk s H scope (compEnvC scope cl C X.env) fp) elt (rdE X.K me))
    (hsw : swapsWith (.ListComp elt [⟨tg, iter, ifs, 0⟩, ⟨tg1, iter1, ifs1, 0⟩] scope pos) (some (.Name y py)) spos.line X.env = pure true) (hy : X.N[i]? = some y := by rfl) (hyl : X.env.scope.names.lookup y = some .local := by rfl) (hw : ∀ i ∈ ws, i ∈ own.map (·.2) := by decide) (hw1 : ∀ i ∈ ws1, i ∈ vs1 := by decide)
    (hs : ∀ x, foldedSetIterable iter X.env x = pure x := by intro _; rfl) (hs1 : ∀ env x, foldedSetIterable iter1 env x = pure x := by intro _ _; rfl) :
    PS X (.Assign [.Name y py] (.ListComp elt [⟨tg, iter, ifs, 0⟩, ⟨tg1, iter1, ifs1, 0⟩] scope pos) spos) (rdS X.K H0 (sSet i (xO (mLc2 ml g mt ml1 g1 mt1 me (own.map (·.2)) vs1)))) :=
  PS_wk (ps_setLc2 hc hN hy hyl hsw hi ok hv hg ht hi1 hg1 ht1 he hs hs1) fun _ _ _ h => set_of (fun _ _ _ h => lc2_of hw hw1 h) h
end
/-! a, b, c = x, y, z -/
def sPar3 (i j l : Nat) (a b c : MX) : MS := fun Γ => (a Γ).bind fun s => (b Γ).bind fun t => (c Γ).map fun u => (.nx, ((Γ.set i s).set j t).set l u)
section
variable {X : Cx} {H0 : Hp} {a b c : Expr} {pos : Pos} {mx my mz : MX}
theorem s_par3 (i j l : Nat) {x y z : Str} {px py pz pt : Pos} {kt k2 pt2} (hc : X.calm = true) (hN : X.N.Nodup) (ha : PE X a (rdX X.K mx)) (hb : PE X b (rdX X.K my)) (hc' : PE X c (rdX X.K mz))
    (hw : swappedStores [.Tuple [.Name x px, .Name y py, .Name z pz] kt pt] (.Tuple [a, b, c] k2 pt2) X.env = pure (some [x, y, z])) (hi : X.N[i]? = some x := by rfl) (hj : X.N[j]? = some y := by rfl) (hl : X.N[l]? = some z := by rfl) (hij : i ≠ j := by decide) (hil : i ≠ l := by decide) (hjl : j ≠ l := by decide)
    (hx : X.env.scope.names.lookup x = some .local := by rfl) (hy : X.env.scope.names.lookup y = some .local := by rfl) (hz : X.env.scope.names.lookup z = some .local := by rfl)
    (hs : swapsWithSole [.Tuple [.Name x px, .Name y py, .Name z pz] kt pt] (.Tuple [a, b, c] k2 pt2) pos.line X.env = pure false := by rfl) (na : starEach [a, b, c] X.env = (false, eval a X.env) :: starEach [b, c] X.env := by rfl)
    (nb : starEach [b, c] X.env = (false, eval b X.env) :: starEach [c] X.env := by rfl) (nc : starEach [c] X.env = (false, eval c X.env) :: starEach [] X.env := by rfl) :
    PS X (.Assign [.Tuple [.Name x px, .Name y py, .Name z pz] kt pt] (.Tuple [a, b, c] k2 pt2) pos) (rdS X.K H0 (sPar3 i j l mx my mz)) :=
  PS_wk (ps_par3 hc hN hi hj hl hij hil hjl hx hy hz (pa_cons ha (pa_cons hb (pa_cons hc' pa_nil nc) nb) na) hw hs) fun D0 σ H ⟨F, Γ, fl, Γ', R, z, q⟩ => by
    obtain ⟨s, e1, z⟩ := Option.bind_eq_some_iff.mp z
    obtain ⟨t, e2, z⟩ := Option.bind_eq_some_iff.mp z
    obtain ⟨u, e3, z⟩ := Option.map_eq_some_iff.mp z
    cases z
    refine ⟨H0, F, Γ, s, R, e1, fun v H1 F1 E1 r1 => ⟨H0, F1, Γ, t, R.ext E1, e2, fun w H2 F2 E2 r2 => ⟨H0, F2, Γ, u, (R.ext E1).ext E2, e3, fun w' H3 F3 E3 r3 => ⟨v, w, w', rfl, ?_⟩⟩⟩⟩
    have h1 := R.h0.trans E1.h
    exact q _ H3 F3 (((Grow.ext R.h0 E1).trans (Grow.ext h1 E2)).trans (Grow.ext (h1.trans E2.h) E3)) (((R.setX E1 r1 i).setX E2 r2 j).setX E3 r3 l)
end
end SK

set_option Elab.async false
set_option linter.all false
set_option maxRecDepth 100000
set_option maxHeartbeats 4000000
set_option autoImplicit false
namespace SK
open PySem PySem.Spec PyProof.Rows L2

/-! ### two readings of one expression -/
section
variable {X : Cx} {e : Expr}
theorem PE_or {t1 t2 : TE} (h1 : PE X e t1) (h2 : PE X e t2) : PE X e (fun σ H Q => t1 σ H Q ∨ t2 σ H Q) := ⟨fun pins s σ H Q I h => by
  rcases h with h | h
  · exact h1.run pins s σ H Q I h
  · exact h2.run pins s σ H Q I h⟩
end
/-! ### sorted -/
def insI (x : Int) : List Int → List Int
  | [] => [x]
  | y :: ys => if x ≤ y then x :: y :: ys else y :: insI x ys
def sortI : List Int → List Int
  | [] => []
  | x :: xs => insI x (sortI xs)
theorem insI_perm (x : Int) : ∀ ys : List Int, (insI x ys).Perm (x :: ys)
  | [] => .refl _
  | y :: ys => by
    unfold insI
    split
    · exact .refl _
    · exact ((insI_perm x ys).cons y).trans (.swap x y ys)
theorem sortI_perm : ∀ xs : List Int, (sortI xs).Perm xs
  | [] => .refl _
  | x :: xs => (insI_perm x _).trans ((sortI_perm xs).cons x)
theorem insI_sorted (x : Int) : ∀ ys : List Int, ys.Pairwise (· ≤ ·) → (insI x ys).Pairwise (· ≤ ·)
  | [], _ => List.pairwise_singleton _ _
  | y :: ys, h => by
    unfold insI
    obtain ⟨h1, h2⟩ := List.pairwise_cons.mp h
    split
    · rename_i c
      exact List.pairwise_cons.mpr ⟨fun z hz => by
        rcases List.mem_cons.mp hz with rfl | hz
        · exact c
        · exact Int.le_trans c (h1 z hz), h⟩
    · rename_i c
      refine List.pairwise_cons.mpr ⟨fun z hz => ?_, insI_sorted x ys h2⟩
      rcases List.mem_cons.mp ((insI_perm x ys).mem_iff.mp hz) with rfl | hz
      · exact Int.le_of_lt (Int.not_le.mp c)
      · exact h1 z hz
theorem sortI_sorted : ∀ xs : List Int, (sortI xs).Pairwise (· ≤ ·)
  | [] => .nil
  | x :: xs => insI_sorted x _ (sortI_sorted xs)
theorem perm_sorted_eq {α : Type} {r : α → α → Prop} (anti : ∀ a b, r a b → r b a → a = b) : ∀ {xs ys : List α}, xs.Perm ys → xs.Pairwise r → ys.Pairwise r → xs = ys
  | [], ys, p, _, _ => by rw [List.nil_perm.mp p]
  | x :: xs, [], p, _, _ => absurd (List.perm_nil.mp p) (List.cons_ne_nil _ _)
  | x :: xs, y :: ys, p, hx, hy => by
    obtain ⟨x1, x2⟩ := List.pairwise_cons.mp hx
    obtain ⟨y1, y2⟩ := List.pairwise_cons.mp hy
    have e : x = y := by
      rcases List.mem_cons.mp (p.mem_iff.mp List.mem_cons_self) with e | mx
      · exact e
      · rcases List.mem_cons.mp (p.mem_iff.mpr List.mem_cons_self) with e | my
        · exact e.symm
        · exact anti _ _ (x1 y my) (y1 x mx)
    subst e
    rw [perm_sorted_eq anti ((List.perm_cons x).mp p) x2 y2]
theorem sortI_eq {xs ys : List Int} (p : ys.Perm xs) (s : ys.Pairwise (· ≤ ·)) : ys = sortI xs :=
  perm_sorted_eq (fun _ _ => Int.le_antisymm) (p.trans (sortI_perm xs).symm) s (sortI_sorted xs)
/-! pairs of ints -/
abbrev leP (p q : Int × Int) : Prop := SrtO.lexB q p = false
def insP (x : Int × Int) : List (Int × Int) → List (Int × Int)
  | [] => [x]
  | y :: ys => if SrtO.lexB y x then y :: insP x ys else x :: y :: ys
def sortP : List (Int × Int) → List (Int × Int)
  | [] => []
  | x :: xs => insP x (sortP xs)
theorem leP_anti {p q : Int × Int} (h : leP p q) (k : leP q p) : p = q := by
  have a := SrtO.lexB_no.mp h
  have b := SrtO.lexB_no.mp k
  cases p; cases q
  simp only at a b
  rw [Prod.mk.injEq]
  omega
theorem leP_trans {p q r : Int × Int} (h : leP p q) (k : leP q r) : leP p r := by
  have a := SrtO.lexB_no.mp h
  have b := SrtO.lexB_no.mp k
  refine SrtO.lexB_no.mpr ?_
  omega
theorem leP_of {p q : Int × Int} (h : SrtO.lexB p q = true) : leP p q := by
  have a := SrtO.lexB_iff.mp h
  refine SrtO.lexB_no.mpr ?_
  omega
theorem insP_perm (x : Int × Int) : ∀ ys : List (Int × Int), (insP x ys).Perm (x :: ys)
  | [] => .refl _
  | y :: ys => by
    unfold insP
    split
    · exact ((insP_perm x ys).cons y).trans (.swap x y ys)
    · exact .refl _
theorem sortP_perm : ∀ xs : List (Int × Int), (sortP xs).Perm xs
  | [] => .refl _
  | x :: xs => (insP_perm x _).trans ((sortP_perm xs).cons x)
theorem insP_sorted (x : Int × Int) : ∀ ys : List (Int × Int), ys.Pairwise leP → (insP x ys).Pairwise leP
  | [], _ => List.pairwise_singleton _ _
  | y :: ys, h => by
    unfold insP
    obtain ⟨h1, h2⟩ := List.pairwise_cons.mp h
    split
    · rename_i c
      refine List.pairwise_cons.mpr ⟨fun z hz => ?_, insP_sorted x ys h2⟩
      rcases List.mem_cons.mp ((insP_perm x ys).mem_iff.mp hz) with rfl | hz
      · exact leP_of c
      · exact h1 z hz
    · rename_i c
      have c' : leP x y := Bool.eq_false_iff.mpr c
      exact List.pairwise_cons.mpr ⟨fun z hz => by
        rcases List.mem_cons.mp hz with rfl | hz
        · exact c'
        · exact leP_trans c' (h1 z hz), h⟩
theorem sortP_sorted : ∀ xs : List (Int × Int), (sortP xs).Pairwise leP
  | [] => .nil
  | x :: xs => insP_sorted x _ (sortP_sorted xs)
theorem sortP_eq {xs ys : List (Int × Int)} (p : ys.Perm xs) (s : ys.Pairwise leP) : ys = sortP xs :=
  perm_sorted_eq (fun _ _ => leP_anti) (p.trans (sortP_perm xs).symm) s (sortP_sorted xs)
def pairD (p : Int × Int) : D := .tup [.int p.1, .int p.2]
def pairOf : D → Option (Int × Int)
  | .tup [.int i, .int j] => some (i, j)
  | _ => none
def pairsOf : List D → Option (List (Int × Int))
  | [] => some []
  | d :: r => (pairOf d).bind fun p => (pairsOf r).map (p :: ·)
theorem pairOf_some {d : D} {p : Int × Int} (h : pairOf d = some p) : d = pairD p := by
  unfold pairOf at h
  split at h
  · cases h; rfl
  · cases h
theorem pairsOf_some : ∀ {ds : List D} {ps : List (Int × Int)}, pairsOf ds = some ps → ds = ps.map pairD
  | [], _, h => by cases h; rfl
  | d :: r, _, h => by
    obtain ⟨p, e, h⟩ := Option.bind_eq_some_iff.mp h
    obtain ⟨qs, e2, rfl⟩ := Option.map_eq_some_iff.mp h
    rw [pairOf_some e, pairsOf_some e2]; rfl
theorem pairsOf_map : ∀ ps : List (Int × Int), pairsOf (ps.map pairD) = some ps
  | [] => rfl
  | p :: ps => by
    show (some p).bind (fun p => (pairsOf (ps.map pairD)).map (p :: ·)) = _
    rw [pairsOf_map ps]; rfl
def dSorted : List D → Option D
  | [.lst xs] => match intsOf xs with
    | some ns => some (.lst ((sortI ns).map .int))
    | none => (pairsOf xs).map fun ps => .lst ((sortP ps).map pairD)
  | _ => none
def rSortedA (K : PySem.W.Frag) : List V → Hp → VK → Prop := fun vs H Q => rSortedI K vs H Q ∨ rSortedPO K vs H Q
section
variable {X : Cx} {K : PySem.W.Frag}
theorem op_sorted : CallR X (.builtin "sorted") (rSortedA X.K) := CallR.or cr_sortedI cr_sortedPO
/-- the pair that stands at a value -/
def keyP (F : Hp) : V → Int × Int
  | .ref t => match F t with
    | some (.tup [.int i, .int j]) => (i, j)
    | _ => (0, 0)
  | _ => (0, 0)
theorem keyP_rep {F : Hp} {v : V} {p : Int × Int} (r : Rep K F v (pairD p)) : keyP F v = p ∧ ∃ t, v = .ref t ∧ F t = some (.tup [.int p.1, .int p.2]) := by
  obtain ⟨a, vs, rfl, h, r⟩ := Rep.tupI r
  cases r with
  | cons r1 r =>
    cases r with
    | cons r2 r =>
      cases r
      rw [r1.intI, r2.intI] at h
      refine ⟨?_, a, rfl, h⟩
      unfold keyP
      simp only [h]
theorem rep_pairs {F : Hp} : ∀ {vs : List V} {ps : List (Int × Int)}, RepL K F vs (ps.map pairD) → vs.map (keyP F) = ps ∧ ∀ v ∈ vs, ∃ t, v = .ref t ∧ F t = some (.tup [.int (keyP F v).1, .int (keyP F v).2])
  | _, [], r => by cases r; exact ⟨rfl, fun _ h => absurd h (List.not_mem_nil)⟩
  | _, p :: ps, r => by
    cases r with
    | cons h r =>
      obtain ⟨k1, k2⟩ := keyP_rep h
      obtain ⟨i1, i2⟩ := rep_pairs r
      refine ⟨by rw [List.map_cons, k1, i1], fun v hv => ?_⟩
      rcases List.mem_cons.mp hv with rfl | hv
      · rw [k1]; exact k2
      · exact i2 v hv
theorem rep_pairs_of {F : Hp} : ∀ {vs : List V}, (∀ v ∈ vs, ∃ t, v = .ref t ∧ F t = some (.tup [.int (keyP F v).1, .int (keyP F v).2])) → RepL K F vs ((vs.map (keyP F)).map pairD)
  | [], _ => .nil
  | v :: vs, h => by
    obtain ⟨t, e, ht⟩ := h v List.mem_cons_self
    refine .cons ?_ (rep_pairs_of fun w hw => h w (List.mem_cons_of_mem _ hw))
    generalize keyP F v = p at ht ⊢
    subst e
    exact .ob ht (.tup (.cons (.int _) (.cons (.int _) .nil)))
theorem d_sorted : Fn1N K dSorted (rSortedA K) := by
  intro F H vs ds d Q s r e q
  unfold dSorted at e
  split at e
  · obtain ⟨v, rfl, rr⟩ := bl1 r
    obtain ⟨a, ws, rfl, h1, r1⟩ := rr.lst s
    split at e
    · rename_i ns e1
      cases e
      rw [ints_rep e1 r1] at h1
      refine .inl ⟨a, ns, rfl, .of h1, fun ns' p hp hs np => ?_⟩
      rw [sortI_eq hp hs]
      exact q p _ _ F (Ext.own s np) np (s.free np) upd_same rfl (.lst (rep_ints _))
    · obtain ⟨ps, e1, rfl⟩ := Option.map_eq_some_iff.mp e
      rw [pairsOf_some e1] at r1
      obtain ⟨k1, k2⟩ := rep_pairs r1
      refine .inr ⟨a, ws, keyP F, rfl, .of h1, fun x hx => ?_, fun ys p hs hb np => ?_⟩
      · obtain ⟨t, e, ht⟩ := k2 x hx
        exact ⟨t, e, s _ _ ht⟩
      · have e : ys.map (keyP F) = sortP ps := sortP_eq (by rw [← k1]; exact hb.perm.map _) (by
          rw [List.pairwise_map]
          exact hs.imp fun h => h)
        have rp := rep_pairs_of (K := K) (F := F) (vs := ys) fun v hv => k2 v (hb.perm.mem_iff.mp hv)
        rw [e] at rp
        exact q p _ _ F (Ext.own s np) np (s.free np) upd_same rfl (.lst rp)
  · cases e
end
/-! ### xs[::-1] -/
def dRev : D → Option D := dRevL
section
variable {X : Cx} {a : Expr} {ma : ME} {k : Nat} {p1 p2 p3 pos : Pos}
theorem r_rev (ha : PE X a (rdB X.K ma)) : PE X (.Subscript a (.Slice none none (some (.UnaryOp .USub (.Constant (.int 1) k p1) p2)) p3) pos) (rdE X.K (mUn dRev ma)) := ofN (r_revN ha)
end
end SK

set_option Elab.async false
set_option linter.all false
set_option maxRecDepth 100000
set_option maxHeartbeats 4000000
set_option autoImplicit false
namespace SK
open PySem PySem.Spec PyProof.Rows L2
/-- a def as the head tells it -/
theorem def_at {fa : List He.Fa} {fn : List He.FnD} {K : PySem.W.Frag} {h : Heap} {mg : Str → Option Value} (X : K.In h) (G : h.Ns mainGlobals mg) (c : He.SaysE fa fn K) (x : Str) (st : Stmt) (ps : List Str) (i j k : Nat)
    (h1 : fn[i]? = some ⟨(x, none), x, x, defArgs st, defBody st, defScope st⟩) (h2 : fa[j]? = some (.glo x)) (h3 : fa[k]? = some (.keep x))
    (hb : ∀ (kV doc pm : Value) (an : Option Addr) (cdv ct : Value) (us : List Value), us.length = ps.length → bindArgs (PySem.W.fnOf x x (defArgs st) (defBody st) (defScope st) .none kV doc pm an cdv ct) ⟨us, []⟩ = pure (ps.zip us)) :
    ∃ (f : Addr) (fd : FuncData), Fun K x x st f fd ∧ mg x = some (.ref f) ∧ Binds K fd ps [] ∧ ∀ (s : Shared) (us : List Value), us.length = ps.length → BindsTo s fd ⟨us, []⟩ (ps.zip us) := by
  obtain ⟨oc, od, osl, kV, doc, pm, an, cdv, ct, l, cd⟩ := c.def_ i h1
  have F := fun_mk (x := x) (qual := x) (st := st) l cd (He.keep_ok (c.fact k h3))
  exact ⟨_, _, F, He.glo_ok X G (c.fact j h2), F.binds hb, fun s us hl => .of_eq (hb _ _ _ _ _ _ us hl)⟩
theorem free_at {fa : List He.Fa} {fn : List He.FnD} {K : PySem.W.Frag} {h : Heap} {mg : Str → Option Value} (X : K.In h) (G : h.Ns mainGlobals mg) (c : He.SaysE fa fn K) (x : Str) (j : Nat) (h2 : fa[j]? = some (.free x)) : mg x = none :=
  He.free_ok X G (c.fact j h2)
theorem int_at {fa : List He.Fa} {fn : List He.FnD} {K : PySem.W.Frag} {h : Heap} {mg : Str → Option Value} (X : K.In h) (G : h.Ns mainGlobals mg) (c : He.SaysE fa fn K) (x : Str) (i : Int) (j : Nat) (h2 : fa[j]? = some (.int x i)) : ∃ t, mg x = some (.int i t) :=
  He.int_ok X G (c.fact j h2)
end SK

set_option Elab.async false
set_option linter.all false
set_option maxRecDepth 100000
set_option autoImplicit false
namespace SK
open PySem PySem.Spec PyProof.Rows L2
/-! the defs that every law has -/
def b__law_mixed : MS :=
  (sSq (sSet 2 (xV (mC (.int 0)))) (sSq (sIf (mTB (mBin dGt (mCall dLen (mCons (mVarB 0) mNil)) (mC (.int 0)))) (sSet 2 (xV (mBin dIx (mVarB 0) (mBin dMod (mVarB 1) (mCall dLen (mCons (mVarB 0) mNil)))))) sNx) (sSq (sSet 3 (xV (mBin dMod (mCall dInt1 (mCons (mBin dAdd (mBin dAdd (mBin dMulI (mVarB 2) (mC (.int 48271))) (mBin dMulI (mVarB 1) (mC (.int 69621)))) (mC (.int 8191))) mNil)) (mC (.int 2147483647))))) (sSq (sSet 4 (xV (mBin dMod (mCall dInt1 (mCons (mBin dAdd (mBin dAdd (mBin dMulI (mVarB 3) (mVarB 3)) (mBin dDiv (mVarB 3) (mC (.int 7)))) (mBin dMulI (mVarB 1) (mC (.int 16807)))) mNil)) (mC (.int 2147483629))))) (sSq (sSet 5 (xV (mBin dMod (mCall dInt1 (mCons (mBin dAdd (mBin dAdd (mBin dMulI (mVarB 4) (mVarB 4)) (mBin dDiv (mVarB 4) (mC (.int 11)))) (mC (.int 40692))) mNil)) (mC (.int 2147483563))))) (sRt (mBin dMod (mBin dDiv (mVarB 5) (mC (.int 5))) (mC (.int 1000003)))))))))
def m__law_mixed : List D → Option D := runFn 2 6 b__law_mixed
def b__law_row : MS :=
  (sSq (sSet 2 (xV (mC (.int 0)))) (sSq (sIf (mtAnd (mTB (mBin dGt (mCall dLen (mCons (mVarB 0) mNil)) (mC (.int 0)))) (mTB (mBin dGe (mBin dIx (mVarB 0) (mC (.int 0))) (mBin dPow (mC (.int 10)) (mC (.int 18)))))) (sSet 2 (xV (mBin dIx (mVarB 0) (mC (.int 0))))) sNx) (sSq (sSet 3 (xO (mLst mNil))) (sSq (sFor (mRng1 (mVarB 1)) (gN 4) (sIf (mTB (mBin dGt (mVarB 2) (mC (.int 0)))) (sSq (sApp 3 (mBin dMod (mCall dInt1 (mCons (mVarB 2) mNil)) (mC (.int 1000)))) (sSet 2 (xV (mBin dDiv (mVarB 2) (mC (.int 1000)))))) (sApp 3 (mCall m__law_mixed (mCons (mVar 0) (mCons (mVar 4) mNil)))))) (sFrz 3 (sRt (mVar 3)))))))
def m__law_row : List D → Option D := runFn 2 5 b__law_row
def b__law_is_int : MS :=
  (sRt (mAnd (mUn (dIsi .int) (mVarB 0)) (mNot (mUn (dIsi .bool) (mVarB 0)))))
def m__law_is_int : List D → Option D := runFn 1 1 b__law_is_int
def b__law_like (r : List D → Option D) : MS :=
  (sSq (sIf (mTB (mBin dIs (mVarB 1) (mC .non))) (sRt (mBin dIs (mVarB 0) (mC .non))) sNx) (sSq (sIf (mTru (mUn (dIsi .bool) (mVarB 1))) (sRt (mAnd (mUn (dIsi .bool) (mVarB 0)) (mBin dEq (mVarB 0) (mVarB 1)))) sNx) (sSq (sIf (mTru (mUn (dIsi .tuple) (mVarB 1))) (sSq (sIf (mtOr (mtNot (mTru (mUn (dIsi .tuple) (mVarB 0)))) (mTB (mBin dNe (mCall dLen (mCons (mVarB 0) mNil)) (mCall dLen (mCons (mVarB 1) mNil))))) (sRt (mC (.bl false))) sNx) (sRt (mCall dAll (mCons (mLc (mRng1 (mCall dLen (mCons (mVarB 1) mNil))) (gN 2) mYes (mCall r (mCons (mBin dIx (mVarB 0) (mVarB 2)) (mCons (mBin dIx (mVarB 1) (mVarB 2)) mNil))) [2]) mNil)))) sNx) (sSq (sIf (mTru (mUn (dIsi .str) (mVarB 1))) (sRt (mAnd (mUn (dIsi .str) (mVarB 0)) (mBin dEq (mVarB 0) (mVarB 1)))) sNx) (sRt (mAnd (mCall m__law_is_int (mCons (mVar 0) mNil)) (mBin dEq (mVarB 0) (mVarB 1))))))))
def m__law_like : Nat → List D → Option D
  | 0 => fun _ => none
  | n + 1 => runFn 2 3 (b__law_like (m__law_like n))
end SK

set_option Elab.async false
set_option linter.all false
set_option maxRecDepth 100000
set_option maxHeartbeats 4000000
set_option autoImplicit false
namespace SK
open PySem PySem.Spec PyProof.Rows L2

/-! ### loops and comprehensions, by what a turn does -/
section
variable {g : MG} {b : MS} {x : D} {xs : List D} {Γ Γ1 : En}
theorem mFor_nx (h : (g x Γ).bind b = some (.nx, Γ1)) : mFor g b (x :: xs) Γ = mFor g b xs Γ1 := by
  obtain ⟨Γ2, e1, e2⟩ := Option.bind_eq_some_iff.mp h
  show (g x Γ).bind _ = _
  rw [e1]
  show (match b Γ2 with | some (.nx, Γ2) => mFor g b xs Γ2 | some (.ct, Γ2) => mFor g b xs Γ2 | some (.bk, Γ2) => some (.nx, Γ2) | r => r) = _
  rw [e2]
theorem mFor_ct (h : (g x Γ).bind b = some (.ct, Γ1)) : mFor g b (x :: xs) Γ = mFor g b xs Γ1 := by
  obtain ⟨Γ2, e1, e2⟩ := Option.bind_eq_some_iff.mp h
  show (g x Γ).bind _ = _
  rw [e1]
  show (match b Γ2 with | some (.nx, Γ2) => mFor g b xs Γ2 | some (.ct, Γ2) => mFor g b xs Γ2 | some (.bk, Γ2) => some (.nx, Γ2) | r => r) = _
  rw [e2]
theorem mFor_bk (h : (g x Γ).bind b = some (.bk, Γ1)) : mFor g b (x :: xs) Γ = some (.nx, Γ1) := by
  obtain ⟨Γ2, e1, e2⟩ := Option.bind_eq_some_iff.mp h
  show (g x Γ).bind _ = _
  rw [e1]
  show (match b Γ2 with | some (.nx, Γ2) => mFor g b xs Γ2 | some (.ct, Γ2) => mFor g b xs Γ2 | some (.bk, Γ2) => some (.nx, Γ2) | r => r) = _
  rw [e2]
theorem mFor_rt {d : D} (h : (g x Γ).bind b = some (.rt d, Γ1)) : mFor g b (x :: xs) Γ = some (.rt d, Γ1) := by
  obtain ⟨Γ2, e1, e2⟩ := Option.bind_eq_some_iff.mp h
  show (g x Γ).bind _ = _
  rw [e1]
  show (match b Γ2 with | some (.nx, Γ2) => mFor g b xs Γ2 | some (.ct, Γ2) => mFor g b xs Γ2 | some (.bk, Γ2) => some (.nx, Γ2) | r => r) = _
  rw [e2]
end
/-! ### one step at a time -/
section
variable {a b : MS} {Γ Γ1 : En} {c : MT} {i : Nat} {d : D}
theorem sSq_nx (h : a Γ = some (.nx, Γ1)) : sSq a b Γ = b Γ1 := by unfold sSq; rw [h]
theorem sSq_rt (h : a Γ = some (.rt d, Γ1)) : sSq a b Γ = some (.rt d, Γ1) := by unfold sSq; rw [h]
theorem sIf_t (h : c Γ = some true) : sIf c a b Γ = a Γ := by unfold sIf; rw [h]; rfl
theorem sIf_f (h : c Γ = some false) : sIf c a b Γ = b Γ := by unfold sIf; rw [h]; rfl
theorem sSet_v {m : ME} (h : m Γ = some d) : sSet i (xV m) Γ = some (.nx, Γ.set i (.val d)) := by unfold sSet xV; rw [h]; rfl
theorem sSet_o {m : ME} (h : m Γ = some d) : sSet i (xO m) Γ = some (.nx, Γ.set i (.own d)) := by unfold sSet xO; rw [h]; rfl
theorem sSetF_of {m : ME} (h : m Γ = some d) : sSetF i m Γ = some (.nx, Γ.set i (.val d)) := by unfold sSetF; rw [h]; rfl
theorem sRt_of {m : ME} (h : m Γ = some d) : sRt m Γ = some (.rt d, Γ) := by unfold sRt; rw [h]; rfl
theorem sFor_of {ml : ML} {g : MG} {xs : List D} (h : ml Γ = some xs) : sFor ml g b Γ = mFor g b xs Γ := by unfold sFor; rw [h]; rfl
theorem mBin_of {f : D → D → Option D} {ma mb : ME} {x y : D} (ha : ma Γ = some x) (hb : mb Γ = some y) : mBin f ma mb Γ = f x y := by unfold mBin; rw [ha, hb]; rfl
theorem mUn_of {f : D → Option D} {ma : ME} {x : D} (ha : ma Γ = some x) : mUn f ma Γ = f x := by unfold mUn; rw [ha]; rfl
theorem mCall_of {f : List D → Option D} {ms : MA} {xs : List D} (h : ms Γ = some xs) : mCall f ms Γ = f xs := by unfold mCall; rw [h]; rfl
theorem mCons_of {ma : ME} {ms : MA} {x : D} {xs : List D} (ha : ma Γ = some x) (h : ms Γ = some xs) : mCons ma ms Γ = some (x :: xs) := by unfold mCons; rw [ha, h]; rfl
theorem mTB_of {m : ME} {t : Bool} (h : m Γ = some (.bl t)) : mTB m Γ = some t := by unfold mTB; rw [h]; rfl
theorem mLc_of {ml : ML} {g : MG} {el : ME} {vs : List Nat} {xs ys : List D} (h : ml Γ = some xs) (h2 : mLcL g c el (wipeE Γ vs) xs = some ys) (hl : ys.length ≤ LIM) : mLc ml g c el vs Γ = some (.lst ys) := by
  unfold mLc
  rw [h, Option.bind_some, h2, Option.bind_some, if_pos hl]
theorem run_rt {np nn : Nat} {ds : List D} (hl : ds.length = np) (h : b (ds.map Slot.val ++ List.replicate (nn - np) Slot.emp) = some (.rt d, Γ1)) : runFn np nn b ds = some d := by
  unfold runFn
  rw [if_pos hl, h]
end
theorem add_tup {m n : ME} {Γ : En} {xs ys : List D} (h : m Γ = some (.tup xs)) (h2 : n Γ = some (.tup ys)) (hl : xs.length + ys.length ≤ LIM) : mBin dAdd m n Γ = some (.tup (xs ++ ys)) := (mBin_of h h2).trans (if_pos hl)
/-! a run told by its ends -/
section
variable {a b : MS} {Γ Γ1 : En} {c : MT} {i j l : Nat} {d e f : D} {m n o : ME} {r : Option Fl}
theorem run_q {np nn : Nat} {ds : List D} (hl : ds.length = np) (h : (b (ds.map Slot.val ++ List.replicate (nn - np) Slot.emp)).map Prod.fst = some (.rt d)) : runFn np nn b ds = some d := by
  obtain ⟨⟨fl, Γ1⟩, h1, h2⟩ := Option.map_eq_some_iff.mp h
  cases h2
  exact run_rt hl h1
theorem q_nx (h : a Γ = some (.nx, Γ1)) (k : (b Γ1).map Prod.fst = r) : (sSq a b Γ).map Prod.fst = r := by rw [sSq_nx h]; exact k
theorem q_set (h : m Γ = some d) (k : (b (Γ.set i (.val d))).map Prod.fst = r) : (sSq (sSet i (xV m)) b Γ).map Prod.fst = r := q_nx (sSet_v h) k
theorem q_setO (h : m Γ = some d) (k : (b (Γ.set i (.own d))).map Prod.fst = r) : (sSq (sSet i (xO m)) b Γ).map Prod.fst = r := q_nx (sSet_o h) k
theorem q_setF (h : m Γ = some d) (k : (b (Γ.set i (.val d))).map Prod.fst = r) : (sSq (sSetF i m) b Γ).map Prod.fst = r := q_nx (sSetF_of h) k
theorem q_skip (h : c Γ = some false) (k : (b Γ).map Prod.fst = r) : (sSq (sIf c a sNx) b Γ).map Prod.fst = r := q_nx ((sIf_f h).trans rfl) k
theorem q_par (h : m Γ = some d) (h2 : n Γ = some e) (k : (b ((Γ.set i (.val d)).set j (.val e))).map Prod.fst = r) : (sSq (sPar i j (xV m) (xV n)) b Γ).map Prod.fst = r := q_nx (by unfold sPar xV; rw [h, h2]; rfl) k
theorem q_ret (h : m Γ = some d) : (sRt m Γ).map Prod.fst = some (.rt d) := by rw [sRt_of h]; rfl
theorem ev1 {g : List D → Option D} (h : m Γ = some d) (h2 : g [d] = some e) : mCall g (mCons m mNil) Γ = some e := (mCall_of (mCons_of h rfl)).trans h2
theorem ev2 {g : List D → Option D} {d2 : D} (h : m Γ = some d) (h1 : n Γ = some d2) (h2 : g [d, d2] = some e) : mCall g (mCons m (mCons n mNil)) Γ = some e := (mCall_of (mCons_of h (mCons_of h1 rfl))).trans h2
theorem ev3 {g : List D → Option D} {d2 d3 : D} (h : m Γ = some d) (h1 : n Γ = some d2) (h3 : o Γ = some d3) (h2 : g [d, d2, d3] = some e) : mCall g (mCons m (mCons n (mCons o mNil))) Γ = some e := (mCall_of (mCons_of h (mCons_of h1 (mCons_of h3 rfl)))).trans h2
theorem not_t (h : m Γ = some (.bl true)) : mtNot (mTru m) Γ = some false := by unfold mtNot mTru; rw [h]; rfl
theorem tru_f {t : Bool} (h : m Γ = some (.bl t)) : mTru m Γ = some t := by unfold mTru; rw [h]; rfl
theorem or_f {c1 c2 : MT} (h1 : c1 Γ = some false) (h2 : c2 Γ = some false) : mtOr c1 c2 Γ = some false := by unfold mtOr; rw [h1]; exact h2
theorem isnot_f {t : Bool} (h : m Γ = some (.bl t)) : mTB (mBin dIsNot m (mC (.bl t))) Γ = some false := by
  unfold mTB mBin mC; rw [h]; cases t <;> rfl
end
/-- a loop that never leaves: S by the items behind -/
theorem for_inv {g : MG} {b : MS} (S : List D → En → Prop) (step : ∀ x xs Γ, S (x :: xs) Γ → ∃ Γ', (g x Γ).bind b = some (.nx, Γ') ∧ S xs Γ') : ∀ (xs : List D) (Γ : En), S xs Γ → ∃ Γ', mFor g b xs Γ = some (.nx, Γ') ∧ S [] Γ'
  | [], Γ, h => ⟨Γ, rfl, h⟩
  | x :: xs, Γ, h => by
    obtain ⟨Γ1, e, h1⟩ := step x xs Γ h
    obtain ⟨Γ2, e2, h2⟩ := for_inv S step xs Γ1 h1
    exact ⟨Γ2, by rw [mFor_nx e, e2], h2⟩
/-- a loop that folds: the state a stands at the slots as Em says -/
theorem for_fold {α β : Type} {g : MG} {b : MS} (en : β → D) (f : α → β → α) (Em : α → En → Prop) (step : ∀ a x Γ, Em a Γ → ∃ Γ', (g (en x) Γ).bind b = some (.nx, Γ') ∧ Em (f a x) Γ') : ∀ (xs : List β) (a : α) (Γ : En), Em a Γ → ∃ Γ', mFor g b (xs.map en) Γ = some (.nx, Γ') ∧ Em (xs.foldl f a) Γ'
  | [], a, Γ, h => ⟨Γ, rfl, h⟩
  | x :: xs, a, Γ, h => by
    obtain ⟨Γ1, e, h1⟩ := step a x Γ h
    obtain ⟨Γ2, e2, h2⟩ := for_fold en f Em step xs (f a x) Γ1 h1
    exact ⟨Γ2, by rw [List.map_cons, mFor_nx e, e2], h2⟩
theorem for_foldm {α β : Type} {g : MG} {b : MS} (en : β → D) (f : α → β → α) (Em : α → En → Prop) : ∀ (xs : List β) (step : ∀ a, ∀ x ∈ xs, ∀ Γ, Em a Γ → ∃ Γ', (g (en x) Γ).bind b = some (.nx, Γ') ∧ Em (f a x) Γ') (a : α) (Γ : En), Em a Γ → ∃ Γ', mFor g b (xs.map en) Γ = some (.nx, Γ') ∧ Em (xs.foldl f a) Γ'
  | [], _, a, Γ, h => ⟨Γ, rfl, h⟩
  | x :: xs, step, a, Γ, h => by
    obtain ⟨Γ1, e, h1⟩ := step a x List.mem_cons_self Γ h
    obtain ⟨Γ2, e2, h2⟩ := for_foldm en f Em xs (fun a y hy => step a y (List.mem_cons_of_mem _ hy)) (f a x) Γ1 h1
    exact ⟨Γ2, by rw [List.map_cons, mFor_nx e, e2], h2⟩
theorem lcL_map {β : Type} {g : MG} {c : MT} {el : ME} {Γ : En} (en : β → D) (f : β → D) : ∀ (xs : List β), (∀ x ∈ xs, ∃ Γ1, g (en x) Γ = some Γ1 ∧ c Γ1 = some true ∧ el Γ1 = some (f x)) → mLcL g c el Γ (xs.map en) = some (xs.map f)
  | [], _ => rfl
  | x :: xs, h => by
    obtain ⟨Γ1, e1, e2, e3⟩ := h x List.mem_cons_self
    have ih := lcL_map en f xs fun y hy => h y (List.mem_cons_of_mem _ hy)
    show (g (en x) Γ).bind _ = _
    rw [e1]
    show (c Γ1).bind _ = _
    rw [e2]
    show (el Γ1).bind _ = _
    rw [e3]
    show (mLcL g c el Γ (xs.map en)).map _ = _
    rw [ih]
    rfl
theorem lcL_filter {β : Type} {g : MG} {c : MT} {el : ME} {Γ : En} (en : β → D) (p : β → Bool) (f : β → D) : ∀ (xs : List β), (∀ x ∈ xs, ∃ Γ1, g (en x) Γ = some Γ1 ∧ c Γ1 = some (p x) ∧ (p x = true → el Γ1 = some (f x))) → mLcL g c el Γ (xs.map en) = some ((xs.filter p).map f)
  | [], _ => rfl
  | x :: xs, h => by
    obtain ⟨Γ1, e1, e2, e3⟩ := h x List.mem_cons_self
    have ih := lcL_filter en p f xs fun y hy => h y (List.mem_cons_of_mem _ hy)
    show (g (en x) Γ).bind _ = _
    rw [e1]
    show (c Γ1).bind _ = _
    rw [e2]
    cases hp : p x with
    | false =>
      rw [List.filter_cons_of_neg (by rw [hp]; exact Bool.false_ne_true)]
      exact ih
    | true =>
      rw [List.filter_cons_of_pos hp]
      show (el Γ1).bind _ = _
      rw [e3 hp]
      show (mLcL g c el Γ (xs.map en)).map _ = _
      rw [ih]
      rfl
theorem q_for {α β : Type} {g : MG} {b rest : MS} {Γ : En} {r : Option Fl} {ml : ML} (en : β → D) (f : α → β → α) (Em : α → En → Prop) (xs : List β) (a : α) (hi : ml Γ = some (xs.map en)) (h0 : Em a Γ)
    (step : ∀ a, ∀ x ∈ xs, ∀ Γ, Em a Γ → ∃ Γ', (g (en x) Γ).bind b = some (.nx, Γ') ∧ Em (f a x) Γ') (k : ∀ Γ', Em (xs.foldl f a) Γ' → (rest Γ').map Prod.fst = r) : (sSq (sFor ml g b) rest Γ).map Prod.fst = r := by
  obtain ⟨Γ', e, h⟩ := for_foldm en f Em xs step a Γ h0
  exact q_nx ((sFor_of hi).trans e) (k Γ' h)
theorem q_blk {a rest : MS} {Γ : En} {r : Option Fl} (Em : En → Prop) (h : ∃ Γ1, a Γ = some (.nx, Γ1) ∧ Em Γ1) (k : ∀ Γ1, Em Γ1 → (rest Γ1).map Prod.fst = r) : (sSq a rest Γ).map Prod.fst = r := by
  obtain ⟨Γ1, e, h1⟩ := h
  exact q_nx e (k Γ1 h1)
/-- a loop told by the items behind it -/
theorem for_pre {β : Type} {g : MG} {b : MS} (en : β → D) (S : List β → En → Prop) : ∀ (rest done : List β) (step : ∀ d1 x d2, done ++ rest = d1 ++ x :: d2 → ∀ Γ, S d1 Γ → ∃ Γ', (g (en x) Γ).bind b = some (.nx, Γ') ∧ S (d1 ++ [x]) Γ') (Γ : En), S done Γ → ∃ Γ', mFor g b (rest.map en) Γ = some (.nx, Γ') ∧ S (done ++ rest) Γ'
  | [], done, _, Γ, h => ⟨Γ, rfl, by rw [List.append_nil]; exact h⟩
  | x :: rest, done, step, Γ, h => by
    obtain ⟨Γ1, e, h1⟩ := step done x rest rfl Γ h
    obtain ⟨Γ2, e2, h2⟩ := for_pre en S rest (done ++ [x]) (fun d1 y d2 hy => step d1 y d2 (by rw [← hy, List.append_assoc]; rfl)) Γ1 h1
    exact ⟨Γ2, by rw [List.map_cons, mFor_nx e, e2], by rw [List.append_assoc] at h2; exact h2⟩
theorem pre_for {β : Type} {g : MG} {b : MS} {Γ : En} {ml : ML} (en : β → D) (S : List β → En → Prop) (xs : List β) (hi : ml Γ = some (xs.map en)) (h0 : S [] Γ)
    (step : ∀ d1 x d2, xs = d1 ++ x :: d2 → ∀ Γ, S d1 Γ → ∃ Γ', (g (en x) Γ).bind b = some (.nx, Γ') ∧ S (d1 ++ [x]) Γ') : ∃ Γ', sFor ml g b Γ = some (.nx, Γ') ∧ S xs Γ' := by
  obtain ⟨Γ', e, h⟩ := for_pre en S xs [] step Γ h0
  exact ⟨Γ', (sFor_of hi).trans e, h⟩
theorem q_pre {β : Type} {g : MG} {b rest : MS} {Γ : En} {r : Option Fl} {ml : ML} (en : β → D) (S : List β → En → Prop) (xs : List β) (hi : ml Γ = some (xs.map en)) (h0 : S [] Γ)
    (step : ∀ d1 x d2, xs = d1 ++ x :: d2 → ∀ Γ, S d1 Γ → ∃ Γ', (g (en x) Γ).bind b = some (.nx, Γ') ∧ S (d1 ++ [x]) Γ') (k : ∀ Γ', S xs Γ' → (rest Γ').map Prod.fst = r) : (sSq (sFor ml g b) rest Γ).map Prod.fst = r := by
  obtain ⟨Γ', e, h⟩ := pre_for en S xs hi h0 step
  exact q_nx e (k Γ' h)
theorem sApp_of {i : Nat} {m : ME} {Γ : En} {xs : List D} {d : D} (h : Γ[i]? = some (.own (.lst xs))) (hm : m Γ = some d) (hl : xs.length < LIM) : sApp i m Γ = some (.nx, Γ.set i (.own (.lst (xs ++ [d])))) := by
  unfold sApp ownL
  rw [h, hm]
  show (if xs.length < LIM then _ else _) = _
  rw [if_pos hl]
/-! a while that never leaves but by its test -/
def wh {α : Type} (t : α → Bool) (f : α → α) : Nat → α → α
  | 0, a => a
  | n + 1, a => if t a then wh t f n (f a) else a
theorem wh_run {α : Type} {c : MT} {b : MS} (t : α → Bool) (f : α → α) (Em : α → En → Prop) (P : α → Prop) (hc : ∀ a Γ, P a → Em a Γ → c Γ = some (t a)) (hb : ∀ a Γ, P a → Em a Γ → t a = true → P (f a) ∧ ∃ Γ', b Γ = some (.nx, Γ') ∧ Em (f a) Γ') : ∀ (N : Nat) (a : α) (Γ : En), P a → Em a Γ → t (wh t f N a) = false → ∃ Γ', mWh c b (N + 1) Γ = some (.nx, Γ') ∧ Em (wh t f N a) Γ' ∧ P (wh t f N a)
  | 0, a, Γ, p, h, e => ⟨Γ, by
    have e : t a = false := e
    show (c Γ).bind _ = _
    rw [hc a Γ p h, e]; rfl, h, p⟩
  | N + 1, a, Γ, p, h, e => by
    cases ht : t a with
    | false =>
      have w : wh t f (N + 1) a = a := by show (if t a then _ else a) = a; rw [ht]; rfl
      refine ⟨Γ, ?_, by rw [w]; exact h, by rw [w]; exact p⟩
      show (c Γ).bind _ = _
      rw [hc a Γ p h, ht]; rfl
    | true =>
      have w : wh t f (N + 1) a = wh t f N (f a) := by show (if t a then _ else a) = _; rw [ht]; rfl
      obtain ⟨p1, Γ1, e1, h1⟩ := hb a Γ p h ht
      rw [w] at e ⊢
      obtain ⟨Γ2, e2, h2⟩ := wh_run t f Em P hc hb N (f a) Γ1 p1 h1 e
      refine ⟨Γ2, ?_, h2⟩
      show (c Γ).bind _ = _
      rw [hc a Γ p h, ht]
      show (match b Γ with | some (.nx, Γ1) => mWh c b (N + 1) Γ1 | some (.ct, Γ1) => mWh c b (N + 1) Γ1 | some (.bk, Γ1) => some (.nx, Γ1) | r => r) = _
      rw [e1]
      exact e2
theorem wh_end {α : Type} {t : α → Bool} {f : α → α} {P : α → Prop} (m : α → Nat) (hp : ∀ a, P a → t a = true → P (f a) ∧ m (f a) < m a) : ∀ (N : Nat) (a : α), P a → m a ≤ N → t (wh t f N a) = false
  | 0, a, p, h => by
    show t a = false
    cases ht : t a with
    | false => rfl
    | true => have := (hp a p ht).2; omega
  | N + 1, a, p, h => by
    show t (if t a then wh t f N (f a) else a) = false
    cases ht : t a with
    | false => exact ht
    | true =>
      obtain ⟨p1, h1⟩ := hp a p ht
      exact wh_end m hp N (f a) p1 (by omega)
/-! a loop that may return -/
def findR {α β : Type} (f : α → β → α) (hit : α → β → Option D) : List β → α → D ⊕ α
  | [], a => .inr a
  | x :: xs, a => match hit a x with
    | some d => .inl d
    | none => findR f hit xs (f a x)
theorem for_find {α β : Type} {g : MG} {b : MS} (en : β → D) (f : α → β → α) (hit : α → β → Option D) (Em : α → En → Prop) : ∀ (xs : List β) (step : ∀ a, ∀ x ∈ xs, ∀ Γ, Em a Γ → (∀ d, hit a x = some d → ∃ Γ', (g (en x) Γ).bind b = some (.rt d, Γ')) ∧ (hit a x = none → ∃ Γ', (g (en x) Γ).bind b = some (.nx, Γ') ∧ Em (f a x) Γ')) (a : α) (Γ : En), Em a Γ → (∀ d, findR f hit xs a = .inl d → ∃ Γ', mFor g b (xs.map en) Γ = some (.rt d, Γ')) ∧ (∀ a', findR f hit xs a = .inr a' → ∃ Γ', mFor g b (xs.map en) Γ = some (.nx, Γ') ∧ Em a' Γ')
  | [], _, a, Γ, h => ⟨fun d e => (nomatch e), fun a' e => ⟨Γ, rfl, by cases e; exact h⟩⟩
  | x :: xs, step, a, Γ, h => by
    obtain ⟨s1, s2⟩ := step a x List.mem_cons_self Γ h
    cases hx : hit a x with
    | some d =>
      obtain ⟨Γ1, e1⟩ := s1 d hx
      have w : findR f hit (x :: xs) a = .inl d := by show (match hit a x with | some d => _ | none => _) = _; rw [hx]
      rw [w]
      exact ⟨fun d' e => ⟨Γ1, by cases e; rw [List.map_cons, mFor_rt e1]⟩, fun a' e => (nomatch e)⟩
    | none =>
      obtain ⟨Γ1, e1, h1⟩ := s2 hx
      have w : findR f hit (x :: xs) a = findR f hit xs (f a x) := by show (match hit a x with | some d => _ | none => _) = _; rw [hx]
      rw [w]
      obtain ⟨r1, r2⟩ := for_find en f hit Em xs (fun a y hy => step a y (List.mem_cons_of_mem _ hy)) (f a x) Γ1 h1
      rw [List.map_cons, mFor_nx e1]
      exact ⟨r1, r2⟩
/-! ### the drawn row -/
theorem okMul_r {i j : Int} (h : j.natAbs < 18446744073709551616) : okMul i j = true := by
  unfold okMul
  rw [two64, decide_eq_true h, Bool.or_true]
theorem okMul_l {i j : Int} (h : i.natAbs < 18446744073709551616) : okMul i j = true := by
  unfold okMul
  rw [two64, decide_eq_true h, Bool.true_or]
theorem mulI_ok {i j : Int} (h : okMul i j = true) : dMulI (.int i) (.int j) = some (.int (i * j)) := by
  show (if okMul i j then some (D.int (i * j)) else none) = _
  rw [h]; rfl
def drawOf (cell k : Int) : Int :=
  let first := (cell * 48271 + k * 69621 + 8191) % 2147483647
  let second := (first * first + first / 7 + k * 16807) % 2147483629
  let third := (second * second + second / 11 + 40692) % 2147483563
  third / 5 % 1000003
theorem mod_small (x m : Int) (h0 : 0 < m) (h : m < 4294967296) : (x % m).natAbs < 18446744073709551616 := by
  have := Int.emod_nonneg x (show m ≠ 0 by omega)
  have := Int.emod_lt_of_pos x h0
  omega
theorem mixed_tail (ns : List Int) (cell k : Int) : ∃ Γ', (sSq (sSet 3 (xV (mBin dMod (mCall dInt1 (mCons (mBin dAdd (mBin dAdd (mBin dMulI (mVarB 2) (mC (.int 48271))) (mBin dMulI (mVarB 1) (mC (.int 69621)))) (mC (.int 8191))) mNil)) (mC (.int 2147483647))))) (sSq (sSet 4 (xV (mBin dMod (mCall dInt1 (mCons (mBin dAdd (mBin dAdd (mBin dMulI (mVarB 3) (mVarB 3)) (mBin dDiv (mVarB 3) (mC (.int 7)))) (mBin dMulI (mVarB 1) (mC (.int 16807)))) mNil)) (mC (.int 2147483629))))) (sSq (sSet 5 (xV (mBin dMod (mCall dInt1 (mCons (mBin dAdd (mBin dAdd (mBin dMulI (mVarB 4) (mVarB 4)) (mBin dDiv (mVarB 4) (mC (.int 11)))) (mC (.int 40692))) mNil)) (mC (.int 2147483563))))) (sRt (mBin dMod (mBin dDiv (mVarB 5) (mC (.int 5))) (mC (.int 1000003))))))) [.val (.scr ns), .val (.int k), .val (.int cell), .emp, .emp, .emp] = some (.rt (.int (drawOf cell k)), Γ') := by
  generalize hf : (cell * 48271 + k * 69621 + 8191) % 2147483647 = first
  have f1 : first.natAbs < 18446744073709551616 := by rw [← hf]; exact mod_small _ _ (by decide) (by decide)
  generalize hs : (first * first + first / 7 + k * 16807) % 2147483629 = second
  have s1 : second.natAbs < 18446744073709551616 := by rw [← hs]; exact mod_small _ _ (by decide) (by decide)
  have e1 : dMulI (.int cell) (.int 48271) = some (.int (cell * 48271)) := mulI_ok (okMul_r (by decide))
  have e2 : dMulI (.int k) (.int 69621) = some (.int (k * 69621)) := mulI_ok (okMul_r (by decide))
  have e3 : dMulI (.int first) (.int first) = some (.int (first * first)) := mulI_ok (okMul_r f1)
  have e4 : dMulI (.int k) (.int 16807) = some (.int (k * 16807)) := mulI_ok (okMul_r (by decide))
  have e5 : dMulI (.int second) (.int second) = some (.int (second * second)) := mulI_ok (okMul_r s1)
  have w1 : (sSet 3 (xV (mBin dMod (mCall dInt1 (mCons (mBin dAdd (mBin dAdd (mBin dMulI (mVarB 2) (mC (.int 48271))) (mBin dMulI (mVarB 1) (mC (.int 69621)))) (mC (.int 8191))) mNil)) (mC (.int 2147483647))))) [.val (.scr ns), .val (.int k), .val (.int cell), .emp, .emp, .emp] = some (.nx, [.val (.scr ns), .val (.int k), .val (.int cell), .val (.int first), .emp, .emp]) := by
    rw [← hf]
    simp only [sSet, xV, mBin, mCall, mCons, mNil, mC, mVarB, List.getElem?_cons_succ, List.getElem?_cons_zero, Option.bind_some, e1, e2]
    rfl
  have w2 : (sSet 4 (xV (mBin dMod (mCall dInt1 (mCons (mBin dAdd (mBin dAdd (mBin dMulI (mVarB 3) (mVarB 3)) (mBin dDiv (mVarB 3) (mC (.int 7)))) (mBin dMulI (mVarB 1) (mC (.int 16807)))) mNil)) (mC (.int 2147483629))))) [.val (.scr ns), .val (.int k), .val (.int cell), .val (.int first), .emp, .emp] = some (.nx, [.val (.scr ns), .val (.int k), .val (.int cell), .val (.int first), .val (.int second), .emp]) := by
    rw [← hs]
    simp only [sSet, xV, mBin, mCall, mCons, mNil, mC, mVarB, List.getElem?_cons_succ, List.getElem?_cons_zero, Option.bind_some, e3, e4]
    rfl
  have w3 : (sSet 5 (xV (mBin dMod (mCall dInt1 (mCons (mBin dAdd (mBin dAdd (mBin dMulI (mVarB 4) (mVarB 4)) (mBin dDiv (mVarB 4) (mC (.int 11)))) (mC (.int 40692))) mNil)) (mC (.int 2147483563))))) [.val (.scr ns), .val (.int k), .val (.int cell), .val (.int first), .val (.int second), .emp] = some (.nx, [.val (.scr ns), .val (.int k), .val (.int cell), .val (.int first), .val (.int second), .val (.int ((second * second + second / 11 + 40692) % 2147483563))]) :=
    by
    simp only [sSet, xV, mBin, mCall, mCons, mNil, mC, mVarB, List.getElem?_cons_succ, List.getElem?_cons_zero, Option.bind_some, e5]
    rfl
  refine ⟨[.val (.scr ns), .val (.int k), .val (.int cell), .val (.int first), .val (.int second), .val (.int ((second * second + second / 11 + 40692) % 2147483563))], ?_⟩
  rw [sSq_nx w1, sSq_nx w2, sSq_nx w3]
  unfold drawOf
  simp only [hf, hs]
  rfl
def cellOf (ns : List Int) (k : Int) : Int := if ns = [] then 0 else (atI ns (k % ns.length)).getD 0
theorem atI_some {α : Type} {xs : List α} {i : Int} (h0 : 0 ≤ i) (h1 : i < xs.length) : atI xs i = some (xs[i.toNat]'(by omega)) := by
  unfold atI ixN
  rw [if_pos h0, if_pos h1]
  show xs[i.toNat]? = _
  exact List.getElem?_eq_getElem (by omega)
theorem E_mixed (ns : List Int) (k : Int) : m__law_mixed [.scr ns, .int k] = some (.int (drawOf (cellOf ns k) k)) := by
  have key : (sIf (mTB (mBin dGt (mCall dLen (mCons (mVarB 0) mNil)) (mC (.int 0)))) (sSet 2 (xV (mBin dIx (mVarB 0) (mBin dMod (mVarB 1) (mCall dLen (mCons (mVarB 0) mNil)))))) sNx) [.val (.scr ns), .val (.int k), .val (.int 0), .emp, .emp, .emp] = some (.nx, [Slot.val (.scr ns), .val (.int k), .val (.int (cellOf ns k)), .emp, .emp, .emp]) := by
    cases ns with
    | nil => rfl
    | cons n ns =>
      have hl : (0 : Int) < ((n :: ns).length : Int) := by rw [List.length_cons]; omega
      have ha : atI (n :: ns) (k % ((n :: ns).length : Int)) = some (cellOf (n :: ns) k) := by
        have h0 := Int.emod_nonneg k (show ((n :: ns).length : Int) ≠ 0 by omega)
        have h1 := Int.emod_lt_of_pos k hl
        unfold cellOf
        rw [if_neg (List.cons_ne_nil _ _), atI_some h0 h1]
        rfl
      rw [sIf_t (by
        show some (decide (0 < ((n :: ns).length : Int))) = _
        rw [decide_eq_true hl])]
      refine (sSet_v (d := .int (cellOf (n :: ns) k)) ((mBin_of (x := .scr (n :: ns)) rfl (y := .int (k % ((n :: ns).length : Int))) ?_).trans ?_)).trans ?_
      · show (if decide (0 < ((n :: ns).length : Int)) then some (D.int (k % ((n :: ns).length : Int))) else none) = _
        rw [decide_eq_true hl]; rfl
      · show (atI (n :: ns) (k % ((n :: ns).length : Int))).map D.int = _
        rw [ha]; rfl
      · rfl
  obtain ⟨Γ', t⟩ := mixed_tail ns (cellOf ns k) k
  refine run_rt (Γ1 := Γ') rfl ?_
  unfold b__law_mixed
  rw [sSq_nx (Γ1 := [.val (.scr ns), .val (.int k), .val (.int 0), .emp, .emp, .emp]) rfl, sSq_nx key]
  exact t
theorem drawOf_range (c k : Int) : 0 ≤ drawOf c k ∧ drawOf c k < 1000003 :=
  ⟨Int.emod_nonneg _ (by decide), Int.emod_lt_of_pos _ (by decide)⟩
/-- the drawn row: so many ints from 0 below 1000003 -/
theorem E_row (ns : List Int) (many : Nat) (hm : many ≤ 1000) : ∃ row : List Int, row.length = many ∧ (∀ x ∈ row, 0 ≤ x ∧ x < 1000003) ∧ m__law_row [.scr ns, .int many] = some (.lst (row.map .int)) := by
  -- big is 0 or the first cell
  have hb : ∃ big : Int, 0 ≤ big ∧ ((sIf (mtAnd (mTB (mBin dGt (mCall dLen (mCons (mVarB 0) mNil)) (mC (.int 0)))) (mTB (mBin dGe (mBin dIx (mVarB 0) (mC (.int 0))) (mBin dPow (mC (.int 10)) (mC (.int 18)))))) (sSet 2 (xV (mBin dIx (mVarB 0) (mC (.int 0))))) sNx) [.val (.scr ns), .val (.int many), .val (.int 0), .emp, .emp]) = some (.nx, [Slot.val (.scr ns), .val (.int many), .val (.int big), .emp, .emp]) := by
    cases ns with
    | nil => exact ⟨0, Int.le_refl _, rfl⟩
    | cons n ns =>
      have hl : (0 : Int) < ((n :: ns).length : Int) := by rw [List.length_cons]; omega
      have e1 : (mTB (mBin dGt (mCall dLen (mCons (mVarB 0) mNil)) (mC (.int 0)))) [.val (.scr (n :: ns)), .val (.int many), .val (.int 0), .emp, .emp] = some true := by
        show some (decide (0 < ((n :: ns).length : Int))) = _
        rw [decide_eq_true hl]
      have ha : atI (n :: ns) 0 = some n := atI_nat (j := 0) rfl
      have e2 : (mBin dIx (mVarB 0) (mC (.int 0))) [.val (.scr (n :: ns)), .val (.int many), .val (.int 0), .emp, .emp] = some (.int n) := by
        show (atI (n :: ns) 0).map D.int = _
        rw [ha]; rfl
      have e3 : (mTB (mBin dGe (mBin dIx (mVarB 0) (mC (.int 0))) (mBin dPow (mC (.int 10)) (mC (.int 18))))) [.val (.scr (n :: ns)), .val (.int many), .val (.int 0), .emp, .emp] = some (decide ((10 : Int) ^ (18 : Int).toNat ≤ n)) := by
        unfold mTB mBin at e2 ⊢
        rw [e2]; rfl
      by_cases c : (10 : Int) ^ (18 : Int).toNat ≤ n
      · refine ⟨n, Int.le_trans (by decide) c, ?_⟩
        simp only [sIf, mtAnd, e1, e3, Option.bind_some, decide_eq_true c, if_true, sSet, xV, e2]
        rfl
      · refine ⟨0, Int.le_refl _, ?_⟩
        simp only [sIf, mtAnd, e1, e3, Option.bind_some, decide_eq_false c, if_true, sNx]
        rfl
  obtain ⟨big, hb0, hbe⟩ := hb
  -- the loop
  have loop := for_inv (g := gN 4) (b := sIf (mTB (mBin dGt (mVarB 2) (mC (.int 0)))) (sSq (sApp 3 (mBin dMod (mCall dInt1 (mCons (mVarB 2) mNil)) (mC (.int 1000)))) (sSet 2 (xV (mBin dDiv (mVarB 2) (mC (.int 1000)))))) (sApp 3 (mCall m__law_mixed (mCons (mVar 0) (mCons (mVar 4) mNil)))))
    (fun xs Γ => ∃ (big : Int) (row : List Int) (s4 : Slot), 0 ≤ big ∧ row.length + xs.length = many ∧ (∀ x ∈ row, 0 ≤ x ∧ x < 1000003) ∧ (∀ x ∈ xs, ∃ i : Int, x = .int i) ∧ Γ = [.val (.scr ns), .val (.int many), .val (.int big), .own (.lst (row.map .int)), s4])
    (fun x xs Γ ⟨big, row, s4, h0, hl, hr, hx, e⟩ => by
      obtain ⟨i, rfl⟩ := hx x List.mem_cons_self
      rw [List.length_cons] at hl
      subst e
      have lim : (row.map D.int).length < LIM := by rw [List.length_map]; unfold LIM; omega
      have happ : ∀ (y : Int) (m : ME) (G : En), G = [.val (.scr ns), .val (.int many), .val (.int big), .own (.lst (row.map .int)), .val (.int i)] → m G = some (.int y) → sApp 3 m G = some (.nx, [.val (.scr ns), .val (.int many), .val (.int big), .own (.lst ((row ++ [y]).map .int)), .val (.int i)]) := by
        intro y m G hG hm
        subst hG
        show ((some (row.map D.int)).bind fun xs => (m _).bind fun d => if xs.length < LIM then some (Fl.nx, _) else none) = _
        rw [Option.bind_some, hm, Option.bind_some, if_pos lim, List.map_append]
        rfl
      by_cases c : 0 < big
      · refine ⟨[.val (.scr ns), .val (.int many), .val (.int (big / 1000)), .own (.lst ((row ++ [big % 1000]).map .int)), .val (.int i)], ?_, big / 1000, row ++ [big % 1000], .val (.int i), Int.ediv_nonneg h0 (by decide), by rw [List.length_append, List.length_singleton]; omega, fun x hx => ?_, fun x h => hx x (List.mem_cons_of_mem _ h), rfl⟩
        · show (some _).bind _ = _
          rw [Option.bind_some]
          have e1 : (mTB (mBin dGt (mVarB 2) (mC (.int 0)))) [.val (.scr ns), .val (.int many), .val (.int big), .own (.lst (row.map .int)), .val (.int i)] = some true := by
            show some (decide (0 < big)) = _
            rw [decide_eq_true c]
          show sIf _ _ _ [.val (.scr ns), .val (.int many), .val (.int big), .own (.lst (row.map .int)), .val (.int i)] = _
          unfold sIf
          rw [e1, Option.bind_some, if_pos rfl]
          unfold sSq
          rw [happ (big % 1000) _ _ rfl rfl]
          rfl
        · rcases List.mem_append.mp hx with h | h
          · exact hr x h
          · rw [List.mem_singleton.mp h]
            omega
      · refine ⟨[.val (.scr ns), .val (.int many), .val (.int big), .own (.lst ((row ++ [drawOf (cellOf ns i) i]).map .int)), .val (.int i)], ?_, big, row ++ [drawOf (cellOf ns i) i], .val (.int i), h0, by rw [List.length_append, List.length_singleton]; omega, fun x hx => ?_, fun x h => hx x (List.mem_cons_of_mem _ h), rfl⟩
        · show (some _).bind _ = _
          rw [Option.bind_some]
          have e1 : (mTB (mBin dGt (mVarB 2) (mC (.int 0)))) [.val (.scr ns), .val (.int many), .val (.int big), .own (.lst (row.map .int)), .val (.int i)] = some false := by
            show some (decide (0 < big)) = _
            rw [decide_eq_false c]
          show sIf _ _ _ [.val (.scr ns), .val (.int many), .val (.int big), .own (.lst (row.map .int)), .val (.int i)] = _
          unfold sIf
          rw [e1, Option.bind_some, if_neg Bool.false_ne_true]
          exact happ _ _ _ rfl (by
            show m__law_mixed [.scr ns, .int i] = _
            exact E_mixed ns i)
        · rcases List.mem_append.mp hx with h | h
          · exact hr x h
          · rw [List.mem_singleton.mp h]
            exact drawOf_range _ _)
    (rngD 0 many) [.val (.scr ns), .val (.int many), .val (.int big), .own (.lst []), .emp]
    ⟨big, [], .emp, hb0, by rw [rngD_len]; simp, fun _ h => absurd h List.not_mem_nil, fun x hx => by
      unfold rngD at hx
      obtain ⟨j, _, rfl⟩ := List.mem_map.mp hx
      exact ⟨_, rfl⟩, rfl⟩
  obtain ⟨Γ', e, big', row, s4, h0, hl, hr, _, rfl⟩ := loop
  refine ⟨row, by rw [List.length_nil] at hl; omega, hr, ?_⟩
  refine run_rt (Γ1 := [.val (.scr ns), .val (.int many), .val (.int big'), .val (.lst (row.map .int)), s4]) rfl ?_
  unfold b__law_row
  rw [sSq_nx (Γ1 := [.val (.scr ns), .val (.int many), .val (.int 0), .emp, .emp]) rfl, sSq_nx hbe, sSq_nx (Γ1 := [.val (.scr ns), .val (.int many), .val (.int big), .own (.lst []), .emp]) rfl, sSq_nx ((sFor_of ?_).trans e)]
  · rfl
  · show (if okR 0 (many : Int) then some (rngD 0 many) else none) = _
    rw [if_pos (by unfold okR; simp only [Bool.and_eq_true, decide_eq_true_eq]; omega)]
end SK

set_option Elab.async false
set_option linter.all false
set_option maxRecDepth 100000
set_option maxHeartbeats 4000000
set_option autoImplicit false
namespace SK
open PySem PySem.Spec PyProof.Rows L2

/-! ### _law_like of a value and itself -/
def D.okL : Nat → D → Bool
  | _, .non => true
  | _, .bl _ => true
  | _, .int _ => true
  | _, .str s => PyData.strOk s
  | n + 1, .tup xs => decide (xs.length ≤ 1000000) && xs.all (D.okL n)
  | _, _ => false
theorem rngD_eq (n : Nat) : rngD 0 n = (List.range n).map fun i : Nat => D.int i := by
  unfold rngD
  rw [Int.sub_zero, Int.toNat_natCast]
  congr 1
  funext i
  rw [Int.zero_add]
theorem okR_nat {n : Nat} (h : n ≤ 1000000) : okR 0 (n : Int) = true := by
  unfold okR
  simp only [Bool.and_eq_true, decide_eq_true_eq]
  omega
theorem like_tup {r : List D → Option D} {xs ys : List D} (hl : xs.length = ys.length) (hz : ys.length ≤ 1000000) (t : List Bool) (ht : t.length = ys.length) (h : ∀ (i : Nat) x y b, xs[i]? = some x → ys[i]? = some y → t[i]? = some b → r [x, y] = some (.bl b)) : runFn 2 3 (b__law_like r) [.tup xs, .tup ys] = some (.bl (t.all id)) := by
  refine run_rt (Γ1 := [.val (.tup xs), .val (.tup ys), .emp]) rfl ?_
  unfold b__law_like
  show sSq _ _ [.val (.tup xs), .val (.tup ys), .emp] = _
  rw [sSq_nx (Γ1 := [.val (.tup xs), .val (.tup ys), .emp]) rfl, sSq_nx (Γ1 := [.val (.tup xs), .val (.tup ys), .emp]) rfl]
  refine sSq_rt ?_
  rw [sIf_t rfl]
  rw [sSq_nx (Γ1 := [.val (.tup xs), .val (.tup ys), .emp]) (by
    rw [sIf_f]
    · rfl
    · show (some (!((xs.length : Int) == (ys.length : Int)))) = _
      rw [hl, beq_self_eq_true]; rfl)]
  refine sRt_of ((mCall_of (mCons_of (x := .lst (t.map .bl)) ?_ rfl)).trans ?_)
  · have e0 : mRng1 (mCall dLen (mCons (mVarB 1) mNil)) [.val (.tup xs), .val (.tup ys), .emp] = some ((List.range ys.length).map fun i : Nat => D.int i) := by
      show (if okR 0 (ys.length : Int) then some (rngD 0 ys.length) else none) = _
      rw [okR_nat hz, if_pos rfl, rngD_eq]
    refine (mLc_of e0 (lcL_map (fun i : Nat => D.int i) (fun i => D.bl (t.getD i false)) _ ?_) ?_).trans ?_
    rotate_left
    · rw [List.length_map, List.length_range]; unfold LIM; omega
    · congr 2
      apply List.ext_getElem?
      intro i
      rw [List.getElem?_map, List.getElem?_map]
      by_cases hi : i < ys.length
      · rw [List.getElem?_range hi, List.getElem?_eq_getElem (by omega)]
        show some (D.bl (t.getD i false)) = _
        rw [List.getD_eq_getElem?_getD, List.getElem?_eq_getElem (by omega)]; rfl
      · rw [List.getElem?_eq_none (by rw [List.length_range]; omega), List.getElem?_eq_none (by omega)]; rfl
    · intro i hi
      have hi := List.mem_range.mp hi
      refine ⟨[.val (.tup xs), .val (.tup ys), .val (.int i)], rfl, rfl, ?_⟩
      have hx : i < xs.length := by omega
      have e1 : (mBin dIx (mVarB 0) (mVarB 2)) [.val (.tup xs), .val (.tup ys), .val (.int i)] = some xs[i] := by
        show atI xs (i : Int) = _
        exact atI_nat (List.getElem?_eq_getElem hx)
      have e2 : (mBin dIx (mVarB 1) (mVarB 2)) [.val (.tup xs), .val (.tup ys), .val (.int i)] = some ys[i] := by
        show atI ys (i : Int) = _
        exact atI_nat (List.getElem?_eq_getElem hi)
      refine (mCall_of (mCons_of e1 (mCons_of e2 rfl))).trans ?_
      have hb : t[i]? = some (t.getD i false) := by
        rw [List.getD_eq_getElem?_getD, List.getElem?_eq_getElem (by omega)]; rfl
      exact h i _ _ _ (List.getElem?_eq_getElem hx) (List.getElem?_eq_getElem hi) hb
  · show (blsOf (t.map .bl)).map _ = _
    rw [blsOf_map]; rfl
theorem like_str {s : Str} (h : PyData.strOk s = true) (r : List D → Option D) : runFn 2 3 (b__law_like r) [.str s, .str s] = some (.bl true) := by
  refine run_rt (Γ1 := [.val (.str s), .val (.str s), .emp]) rfl ?_
  unfold b__law_like
  show sSq _ _ [.val (.str s), .val (.str s), .emp] = _
  rw [sSq_nx (Γ1 := [.val (.str s), .val (.str s), .emp]) rfl, sSq_nx (Γ1 := [.val (.str s), .val (.str s), .emp]) rfl, sSq_nx (Γ1 := [.val (.str s), .val (.str s), .emp]) rfl]
  refine sSq_rt ((sIf_t rfl).trans (sRt_of ?_))
  show (if (PyData.strOk s && PyData.strOk s) = true then some (D.bl (s == s)) else none) = _
  rw [h, beq_self_eq_true]; rfl
theorem like_refl : ∀ (n : Nat) (d : D), D.okL n d = true → m__law_like (n + 1) [d, d] = some (.bl true) := by
  intro n
  induction n with
  | zero =>
    intro d h
    cases d with
    | non => rfl
    | bl b => cases b <;> rfl
    | int i =>
      show some (D.bl (i == i)) = _
      rw [beq_self_eq_true]
    | str s =>
      have h : PyData.strOk s = true := h
      exact like_str h _
    | tup xs => cases h
    | lst xs => cases h
    | scr ns => cases h
    | dic _ _ => cases h
    | dit _ _ => cases h
  | succ n ih =>
    intro d h
    cases d with
    | non => rfl
    | bl b => cases b <;> rfl
    | int i =>
      show some (D.bl (i == i)) = _
      rw [beq_self_eq_true]
    | str s =>
      have h : PyData.strOk s = true := h
      exact like_str h _
    | tup xs =>
      obtain ⟨h1, h2⟩ := Bool.and_eq_true_iff.mp h
      have := like_tup (r := m__law_like (n + 1)) (xs := xs) (ys := xs) rfl (of_decide_eq_true h1) (List.replicate xs.length true) List.length_replicate (fun i x y b e1 e2 e3 => by
        rw [e1] at e2
        cases e2
        have : b = true := by
          rw [List.getElem?_replicate] at e3
          split at e3 <;> cases e3
          rfl
        subst this
        exact ih x (List.all_eq_true.mp h2 x (List.mem_of_getElem? e1)))
      rw [show (List.replicate xs.length true).all id = true from List.all_eq_true.mpr fun b hb => (List.mem_replicate.mp hb).2] at this
      exact this
    | lst xs => cases h
    | scr ns => cases h
    | dic _ _ => cases h
    | dit _ _ => cases h
/-- the call of the law's own comparison, of equal values -/
theorem like_eq {x y : D} (e : x = y) (h : D.okL 9 y = true) : m__law_like 10 [x, y] = some (.bl true) := by rw [e]; exact like_refl 9 y h
/-! slices -/
theorem cut_take (xs : List D) (c : Nat) : cutD xs none (some (c : Int)) = xs.take c := by
  unfold cutD
  rw [HT.sIx_none, HT.sIx_nat, List.drop_zero, Nat.sub_zero, ← List.take_eq_take_min]
theorem cut_drop (xs : List D) (c : Nat) : cutD xs (some (c : Int)) none = xs.drop c := by
  unfold cutD
  rw [HT.sIx_none, HT.sIx_nat]
  by_cases h : c ≤ xs.length
  · rw [Nat.min_eq_left h, List.take_of_length_le (by rw [List.length_drop]; omega)]
  · rw [Nat.min_eq_right (by omega), Nat.sub_self, List.take_zero, List.drop_eq_nil_of_le (by omega)]
theorem sl_take {m n : ME} {Γ : En} {xs : List D} {c : Nat} (h : m Γ = some (.tup xs)) (h2 : n Γ = some (.int c)) : mSl m mONone (mOSome n) Γ = some (.tup (xs.take c)) := by
  show (m Γ).bind (fun x => (some none).bind fun lo => ((n Γ).bind dInt).bind fun hi => dSl x lo hi) = _
  rw [h, h2]
  show some (D.tup (cutD xs none (some (c : Int)))) = _
  rw [cut_take]
theorem sl_drop {m n : ME} {Γ : En} {xs : List D} {c : Nat} (h : m Γ = some (.tup xs)) (h2 : n Γ = some (.int c)) : mSl m (mOSome n) mONone Γ = some (.tup (xs.drop c)) := by
  show (m Γ).bind (fun x => ((n Γ).bind dInt).bind fun lo => (some none).bind fun hi => dSl x lo hi) = _
  rw [h, h2]
  show some (D.tup (cutD xs (some (c : Int)) none)) = _
  rw [cut_drop]
theorem ix_nat {m n : ME} {Γ : En} {xs : List D} {i : Nat} {d : D} (h : m Γ = some (.tup xs)) (h2 : n Γ = some (.int i)) (h3 : xs[i]? = some d) : mBin dIx m n Γ = some d := (mBin_of h h2).trans (show atI xs (i : Int) = some d from atI_nat h3)
/-! the drawn row's cells -/
theorem row_at {m n : ME} {Γ : En} {row : List Int} {i : Nat} (h : m Γ = some (.lst (row.map .int))) (h2 : n Γ = some (.int i)) (h3 : i < row.length) : mBin dIx m n Γ = some (.int (row.getD i 0)) := (mBin_of h h2).trans (show atI (row.map D.int) (i : Int) = _ from atI_nat (by
  rw [List.getElem?_map, List.getD_eq_getElem?_getD, List.getElem?_eq_getElem h3]; rfl))
theorem row_int {m n : ME} {Γ : En} {row : List Int} {i : Nat} (h : m Γ = some (.lst (row.map .int))) (h2 : n Γ = some (.int i)) (h3 : i < row.length) : mCall dInt1 (mCons (mBin dIx m n) mNil) Γ = some (.int (row.getD i 0)) := ev1 (row_at h h2 h3) rfl
theorem mod_of {m n : ME} {Γ : En} {x y : Int} (h : m Γ = some (.int x)) (h2 : n Γ = some (.int y)) (h3 : 0 < y) : mBin dMod m n Γ = some (.int (x % y)) := (mBin_of h h2).trans (by
  show (if decide (0 < y) then some (D.int (x % y)) else none) = _
  rw [decide_eq_true h3]; rfl)
theorem rng2_of {ma mb : ME} {Γ : En} {i j : Int} (h1 : ma Γ = some (.int i)) (h2 : mb Γ = some (.int j)) (h3 : okR i j = true) : mRng2 ma mb Γ = some (rngD i j) := by
  unfold mRng2
  rw [h1, h2, Option.bind_some, Option.bind_some]
  simp only [dI, Option.bind_some, h3, if_true]
theorem not_like {x y : D} {m n : ME} {Γ : En} (hm : m Γ = some x) (hn : n Γ = some y) (e : x = y) (h : D.okL 9 y = true) : mtNot (mTru (mCall (m__law_like 10) (mCons m (mCons n mNil)))) Γ = some false := not_t (ev2 hm hn (like_eq e h))
theorem okL_tup {n : Nat} {xs : List D} (h : xs.length ≤ 1000000) (h2 : ∀ x ∈ xs, D.okL n x = true) : D.okL (n + 1) (.tup xs) = true := by
  show (decide _ && _) = true
  rw [decide_eq_true h, List.all_eq_true.mpr h2]; rfl
theorem okL_int (n : Nat) (i : Int) : D.okL n (.int i) = true := by cases n <;> rfl
theorem okL_ints {n : Nat} {xs : List Int} (h : xs.length ≤ 1000000) : D.okL (n + 1) (.tup (xs.map .int)) = true := okL_tup (by rw [List.length_map]; exact h) (fun x hx => by
  obtain ⟨i, _, rfl⟩ := List.mem_map.mp hx; exact okL_int n i)
theorem rng_len {m : ME} {Γ : En} {n : Nat} (h : m Γ = some (.int n)) (hn : n ≤ 1000000) : mRng1 m Γ = some ((List.range n).map fun i : Nat => D.int i) := by
  unfold mRng1
  rw [h]
  show (if okR 0 (n : Int) then some (rngD 0 n) else none) = _
  rw [okR_nat hn, if_pos rfl, rngD_eq]
theorem gD_at {α : Type} {xs : List α} {k : Nat} {z : α} (h : k < xs.length) : xs[k]? = some (xs.getD k z) := by
  rw [List.getD_eq_getElem?_getD, List.getElem?_eq_getElem h]; rfl
theorem nat_of {x y : Int} (h : 0 < y) : ∃ n : Nat, x % y = n ∧ (n : Int) < y := by
  have h0 := Int.emod_nonneg x (show y ≠ 0 by omega)
  obtain ⟨n, hn⟩ := Int.eq_ofNat_of_zero_le h0
  exact ⟨n, hn, by rw [← hn]; exact Int.emod_lt_of_pos x h⟩
end SK

set_option Elab.async false
set_option linter.all false
set_option maxRecDepth 100000
set_option maxHeartbeats 4000000
set_option autoImplicit false
namespace SK
open PySem PySem.Spec PyProof.Rows L2

/-! ### sorted(set(..)) -/
/-- a set as it begins -/
def set0 (w : World) : Obj := { cls := .type "set", dict := none, data := .set #[] 0 (.fresh 0 0 (!w.params.followText "set-order")) }
section
variable {P : Program} {w : World} {A : Around} {E : Value → Shared → Prop} {s : Shared}
/-- what set(xs) leaves -/
def SetDone (w : World) (ns : List Int) (s : Shared) (s' : Shared) : Prop := ∃ h' tk c, s' = { s with heap := h', toks := tk } ∧ SetR w h' s.heap.objs.size (fun j => decide (j ∈ ns)) c ∧ c ≤ ns.length ∧ (∀ b o, s.heap.get? b = some o → h'.get? b = some o)
set_option maxHeartbeats 8000000 in
theorem set_list {l : Addr} {items : Array Value} (ns : List Int) {Q : Value → Shared → Prop} (nh : A.handled = none) (isl : s.heap.IsList l items) (isI : IntsAre items.toList ns) (lim : ns.length + 1 < scanBound)
    (fin : ∀ s', SetDone w ns s s' → Q (.ref s.heap.objs.size) s') : wpAny (model P w) A (call (.type "set") [.ref l]) Q E s := by
  have mny : items.size = ns.length := by rw [← IntsAre.length isI, Array.length_toList]
  obtain ⟨c0, rest0, mro⟩ := F.called_set.mro
  have k1 := F.called_set.made; have k2 := F.called_set.sub; have k3 := F.called_set.notType; have k4 := F.called_set.canCreate
  have k5 := F.typeCall_set_1 (.ref l)
  refine wpAny_call (codeAny_of_tree ?_)
  show wpAny _ _ (callAny (.type "set") _) _ _ _; refine wpAny_pure ⟨Code.quiet_builtin _ (by decide +kernel), codeAny_builtin F.entry_type_call ?_⟩
  rw [Around.under_plain (weight_type_call_type "set" [.ref l] []) rfl]; repeat (any_goals (first | assumption | wp_step))
  refine codeAny_mono (code_set_led1 (.ref l) (E := E) (Q₁ := fun v s1 => v = .ref s.heap.objs.size ∧ s1 = { s with heap := s.heap.push (set0 w) }) ⟨rfl, rfl⟩) fun r s1 hr => ?_
  match r, hr with
  | .error e, hr => exact hr
  | .ok (.ret v), ⟨e1, e2⟩ =>
    subst e1 e2
    have at0 : (s.heap.push (set0 w)).get? s.heap.objs.size = some (set0 w) := Heap.get?_push_size _ rfl
    have ty0 : Shared.TypeIs { s with heap := s.heap.push (set0 w) } (.ref s.heap.objs.size) "set" := ⟨_, at0, rfl⟩
    have k6 := F.called_set.init.lookup; have k7 := F.called_set.init.bind (.ref s.heap.objs.size); repeat (any_goals (first | assumption | wp_step))
    refine codeAny_mono (codeAny_call_builtin (R := wants (fun r s2 => r = .none ∧ SetDone w ns s s2) E) F.called_set.init.plain F.entry_set_init (check_set_init_1 ty0 ?_)) fun r2 s2 hr2 => ?_
    · obtain ⟨⟨oc, od, oda, osl⟩, atl, cl, nl, da⟩ := isl
      simp only at cl da
      subst cl da
      have lt : l < s.heap.objs.size := Heap.lt_size atl
      have at1 := Heap.get?_push_of_some (set0 w) atl
      have is1 : (s.heap.push (set0 w)).IsList l items := ⟨_, at1, rfl, nl, rfl⟩
      have sz : (s.heap.push (set0 w)).objs.size = s.heap.objs.size + 1 := by rw [Heap.size_push]
      have k8 := F.sub_list_set; have k9 := F.sub_list_frozenset
      have k0 : (Value.type "list" == Value.type "dict") = false := by decide
      unfold Builtin.«set.__init__» noKeywords Builtin.Frozenset.updateFrom
      generalize hq : pyIter = q
      wp_walk
      subst hq
      refine wpAny_pyIter_list is1 (wpAny_bind (wpAny_runValue ?_))
      have ap : l ≠ (s.heap.push (set0 w)).objs.size := by rw [sz]; exact Nat.ne_of_lt (Nat.lt_succ_of_lt lt)
      have nin : s.heap.objs.size ∉ [(s.heap.push (set0 w)).objs.size, l] := fun z => by
        rw [sz] at z
        rcases List.mem_cons.mp z with z | z
        · exact absurd z (Nat.ne_of_lt (Nat.lt_succ_self _))
        · exact absurd (List.mem_singleton.mp z) (Nat.ne_of_gt lt)
      have nh3 : A.in1.in1.in1.handled = none := by simp [nh]
      refine set_update_ints ((Walks.list nh3 _ l ap items).toS) s.heap.objs.size nin ns mny lim (fun i v hv => ?_) (items.size - 0) 0 _ (by omega) (Nat.zero_le _) ⟨⟨_, Heap.get?_push_size _ rfl, rfl, rfl⟩, is1.push _⟩ ⟨0, Nat.le_refl 0, ?_⟩ fun s3 c3 mv c3l R3 => ?_
      · have hi : i < ns.length := mny ▸ (Array.getElem?_eq_some_iff.mp hv).1
        obtain ⟨t, e⟩ := IntsAre.int_at isI i v (by rw [Array.getElem?_toList]; exact hv)
        refine ⟨ns[i], t, List.getElem?_eq_getElem hi, e.trans ?_⟩
        rw [List.getD_eq_getElem?_getD, List.getElem?_eq_getElem hi]; rfl
      · exact setR_new_at (Heap.get?_push_of_some _ at0)
      · obtain ⟨h3, g3, d3, t3, os3⟩ := s3
        obtain ⟨e1, e2, e3⟩ : g3 = s.gens ∧ d3 = s.drawn ∧ os3 = s.os := ⟨mv.gens, mv.drawn, mv.os⟩
        subst e1 e2 e3
        show wpAny _ _ _ _ _ _
        refine wpAny_pure ?_
        show wpAny _ _ (ret Value.none) _ _ _
        refine wpAny_pure ⟨rfl, h3, t3, c3, rfl, R3, mny ▸ c3l, fun b o e => ?_⟩
        have lb := Heap.lt_size e
        refine mv.heap b o (fun z => ?_) (Heap.get?_push_of_some _ (Heap.get?_push_of_some _ e))
        rcases List.mem_cons.mp z with z | z
        · exact absurd z (Nat.ne_of_lt lb)
        · have z := List.mem_singleton.mp z
          rw [sz] at z
          exact absurd z (Nat.ne_of_lt (Nat.lt_succ_of_lt lb))
    · match r2, hr2 with
      | .error e, hr2 => exact hr2
      | .ok (.ret v), ⟨e1, dn⟩ =>
        subst e1
        obtain ⟨h3, t3, c3, e3, R3, l3, kp⟩ := dn
        subst e3
        repeat (any_goals (first | assumption | wp_step))
        exact fin _ ⟨h3, t3, c3, rfl, R3, l3, kp⟩
      | .ok .next, hr2 => exact hr2.elim
      | .ok .brk, hr2 => exact hr2.elim
      | .ok .cont, hr2 => exact hr2.elim
  | .ok .next, hr => exact hr.elim
  | .ok .brk, hr => exact hr.elim
  | .ok .cont, hr => exact hr.elim
end
section
/-- the ints of a sequence, each once, ascending -/
def ddI (x : Int) : List Int → List Int
  | [] => [x]
  | y :: ys => if x < y then x :: y :: ys else if x = y then y :: ys else y :: ddI x ys
def setI : List Int → List Int
  | [] => []
  | x :: xs => ddI x (setI xs)
theorem ddI_mem (x : Int) : ∀ (ys : List Int) (k : Int), k ∈ ddI x ys ↔ k = x ∨ k ∈ ys
  | [], k => by unfold ddI; simp
  | y :: ys, k => by
    unfold ddI
    split
    · simp
    · split
      · rename_i h; subst h; simp
      · rw [List.mem_cons, ddI_mem x ys k, List.mem_cons]
        constructor
        · rintro (h | h | h)
          · exact .inr (.inl h)
          · exact .inl h
          · exact .inr (.inr h)
        · rintro (h | h | h)
          · exact .inr (.inl h)
          · exact .inl h
          · exact .inr (.inr h)
theorem ddI_sorted (x : Int) : ∀ ys : List Int, ys.Pairwise (· < ·) → (ddI x ys).Pairwise (· < ·)
  | [], _ => List.pairwise_singleton _ _
  | y :: ys, h => by
    obtain ⟨h1, h2⟩ := List.pairwise_cons.mp h
    unfold ddI
    split
    · rename_i c
      exact List.pairwise_cons.mpr ⟨fun z hz => by
        rcases List.mem_cons.mp hz with rfl | hz
        · exact c
        · exact Int.lt_trans c (h1 z hz), h⟩
    · split
      · exact h
      · refine List.pairwise_cons.mpr ⟨fun z hz => ?_, ddI_sorted x ys h2⟩
        rcases (ddI_mem x ys z).mp hz with rfl | hz
        · omega
        · exact h1 z hz
theorem setI_mem : ∀ (xs : List Int) (k : Int), k ∈ setI xs ↔ k ∈ xs
  | [], k => by unfold setI; exact Iff.rfl
  | x :: xs, k => by unfold setI; rw [ddI_mem, setI_mem xs k, List.mem_cons]
theorem setI_sorted : ∀ xs : List Int, (setI xs).Pairwise (· < ·)
  | [] => .nil
  | x :: xs => by unfold setI; exact ddI_sorted x _ (setI_sorted xs)
theorem up_eq : ∀ {xs ys : List Int}, xs.Pairwise (· < ·) → ys.Pairwise (· < ·) → (∀ k, k ∈ xs ↔ k ∈ ys) → xs = ys
  | [], [], _, _, _ => rfl
  | [], y :: ys, _, _, h => absurd ((h y).mpr List.mem_cons_self) List.not_mem_nil
  | x :: xs, [], _, _, h => absurd ((h x).mp List.mem_cons_self) List.not_mem_nil
  | x :: xs, y :: ys, hx, hy, h => by
    obtain ⟨x1, x2⟩ := List.pairwise_cons.mp hx
    obtain ⟨y1, y2⟩ := List.pairwise_cons.mp hy
    have e : x = y := by
      rcases List.mem_cons.mp ((h x).mp List.mem_cons_self) with e | a
      · exact e
      · rcases List.mem_cons.mp ((h y).mpr List.mem_cons_self) with e | b
        · exact e.symm
        · have := x1 y b; have := y1 x a; omega
    subst e
    rw [up_eq x2 y2 fun k => by
      have := h k
      simp only [List.mem_cons] at this
      constructor
      · intro a
        rcases this.mp (.inr a) with e | b
        · subst e; exact absurd (x1 k a) (Int.lt_irrefl k)
        · exact b
      · intro a
        rcases this.mpr (.inr a) with e | b
        · subst e; exact absurd (y1 k a) (Int.lt_irrefl k)
        · exact b]
theorem nodup_len : ∀ {xs ys : List Int}, xs.Nodup → ys.Nodup → (∀ k, k ∈ xs ↔ k ∈ ys) → xs.length = ys.length := fun {xs ys} hx hy h => by
  have a : xs.length ≤ ys.length := by
    refine List.Nodup.length_le_of_subset hx fun k hk => (h k).mp hk
  have b : ys.length ≤ xs.length := List.Nodup.length_le_of_subset hy fun k hk => (h k).mpr hk
  omega
theorem setR_many {w : World} {h : Heap} {a : Addr} {ns : List Int} {c : Nat} (R : SetR w h a (fun k => decide (k ∈ ns)) c) : c = (setI ns).length := by
  obtain ⟨o, es, ep, t, _, _, _, _, nd, mem, _, _, n, _⟩ := R
  rw [← n]
  have := nodup_len nd ((setI_sorted ns).imp fun h => Int.ne_of_lt h) fun k => by rw [← mem k, decide_eq_true_eq, setI_mem]
  rw [← this, List.length_map, Array.length_toList]
end
section
variable {X : Cx}
/-- set(list of ints), set(tuple of ints) -/
def rSetI (K : PySem.W.Frag) (w : World) : List V → Hp → VK → Prop := fun xs H Q => ∃ (l : Addr) (ns : List Int), xs = [V.ref l] ∧ (SqL K H l (ns.map V.int) ∨ SqT K H l (ns.map V.int)) ∧ ns.length + 1 < scanBound ∧
  ∀ p c, c = (setI ns).length → H p = none → Q (.ref p) (upd H p (SetO w p (fun k => decide (k ∈ ns)) c))
theorem cr_setI (hc : X.calm = true) : CallR X (.type "set") (rSetI X.K X.w) := by
  intro pins s σ H xs us Q I r h
  obtain ⟨l, ns, rfl, hl, hb, q⟩ := h
  rw [Vals.ref1 r]
  have hn : H s.heap.objs.size = none := I.hok.fresh (Nat.le_refl _)
  have key : ∀ s', SetDone X.w ns s s' → ∃ v H', Inv X pins σ H' s' ∧ RelV v (.ref s.heap.objs.size) ∧ Q v H' := fun s' ⟨h', tk, c, e, R, lc, k⟩ => by
    subst e
    exact ⟨.ref s.heap.objs.size, upd H s.heap.objs.size (SetO X.w s.heap.objs.size _ c), I.laid (t' := tk) k (Nat.le_refl _) (setO_new R), rfl, q _ c (setR_many R) hn⟩
  rcases hl with hl | hl
  · obtain ⟨its, rv, pl, hz⟩ := I.list hl
    exact set_list ns (I.ok.hd hc) pl.isList (by simpa using ints_of_vals rv) hb fun s' d => key s' d
  · obtain ⟨its, rv, pt, hz⟩ := I.tuple hl
    exact call_set_tupI ns (I.ok.hd hc) (show s.heap.IsTuple l its.toArray from pt) (by simpa using ints_of_vals rv) hb fun h' tk c R lc k => key _ ⟨h', tk, c, rfl, R, lc, k⟩
def dSetI : List D → Option D
  | [x] => (itemsD x).bind fun xs => (intsOf xs).bind fun ns => if (setI ns).length < 64 && ns.length < 4000 then some (.lst ((setI ns).map .int)) else none
  | _ => none
/-- sorted(set(e)) -/
theorem r_sortSet {e : Expr} {me : ME} {p p2 q pos : Pos} (hc : X.calm = true) (hg : Gl X "sorted") (hm : X.mg "sorted" = none) (hg2 : Gl X "set") (hm2 : X.mg "set" = none) (ha : PE X e (rdB X.K me))
    (hs : starEach [e] X.env = (false, eval e X.env) :: starEach [] X.env := by rfl) : PE X (.Call (.Name "sorted" p) [.Call (.Name "set" p2) [e] [] q] [] pos) (rdN X.K (mCall dSetI (mCons me mNil))) :=
  PE.wk (pe_callB (cr_sortedSet hc) hg hm (by decide +kernel) (pa_cons (pe_callTy (cr_setI hc) hg2 hm2 (by decide +kernel) (r_bcons ha r_bnil hs) (he := hs)) pa_nil)) fun σ H Q ⟨H0, F, Γ, d, R, z, qq⟩ => by
    obtain ⟨ds, ed, z⟩ := Option.bind_eq_some_iff.mp z
    refine ⟨H0, F, Γ, ds, R, ed, fun vs H1 F1 E1 r1 => ?_⟩
    unfold dSetI at z
    split at z
    · rename_i x
      obtain ⟨xs, e1, z⟩ := Option.bind_eq_some_iff.mp z
      obtain ⟨ns, e2, z⟩ := Option.bind_eq_some_iff.mp z
      obtain ⟨c, rfl⟩ := if_some z
      simp only [Bool.and_eq_true, decide_eq_true_eq] at c
      obtain ⟨v, rfl, rr⟩ := bl1 r1
      obtain ⟨a, ws, rfl, h1, r2⟩ := seq_B E1.fh rr e1
      rw [ints_rep e2 r2] at h1
      refine ⟨a, ns, rfl, h1, by unfold scanBound; omega, fun p k hk np => ?_⟩
      refine ⟨p, _, k, rfl, upd_same, by omega, fun ms t up mem len nt => ?_⟩
      have em : ms = setI ns := up_eq up (setI_sorted ns) fun k => by rw [mem k, setI_mem, decide_eq_true_eq]
      rw [em]
      have E2 : Ext F1 H1 F1 (upd H1 p (SetO X.w p (fun k => decide (k ∈ ns)) k)) := Ext.own E1.fh np
      have ntF : F1 t = none := E2.fh.free nt
      exact qq t _ _ F1 ((E1.trans E2).trans (Ext.own E2.fh nt)) ((E1.trans E2).h.free nt) ntF upd_same rfl (.lst (rep_ints _))
    · cases z
end
end SK

set_option Elab.async false
set_option linter.all false
set_option maxRecDepth 100000
set_option maxHeartbeats 4000000
set_option autoImplicit false
namespace SK
open PySem PySem.Spec PyProof.Rows L2

/-! ### what is told in pairs: enumerate, zip of tuples, lists, texts -/
/-- what lies behind an iterator of pairs -/
structure PairSrc (P : Program) (w : World) (K : PySem.W.Frag) (I : Addr) (fp : List Addr) (n : Nat) (as bs : List V) (src : Hp → Prop) (tn : Nat → Heap → Prop) : Prop where
  mem : I ∈ fp
  obj : ∀ i h, tn i h → ∀ b ∈ fp, ∃ o, h.get? b = some o ∧ ∀ v, o.data ≠ .cell v
  keep : ∀ i h h', tn i h → (∀ b ∈ fp, ∀ o, h.get? b = some o → h'.get? b = some o) → tn i h'
  walk : ∀ (X : Cx), X.prog = P → X.w = w → X.K = K → X.calm = true → ∀ (pins : List (Addr × Obj)) (s : Shared) (σ : L2.St) (H : Hp), Inv X pins σ H s → src H →
    ∃ (fw wr : List Addr) (Pt : Nat → Array Value → Prop) (St : Nat → Heap → Prop) (Mid : Nat → Addr → Heap → Prop), WalksT P w X.A I fw wr n Pt St Mid ∧ (∀ b ∈ wr, b ∈ fp) ∧ (∀ i, tn i s.heap → St i s.heap) ∧ (∀ i h, St i h → tn i h) ∧
      ∀ i vals, i < n → Pt i vals → ∃ x y u v, vals = #[u, v] ∧ as[i]? = some x ∧ bs[i]? = some y ∧ RelV x u ∧ RelV y v
  self : ∀ (A : Around) (i : Nat) (s : Shared) (Q : Value → Shared → Prop) (E : Value → Shared → Prop), tn i s.heap → Q (.ref I) s → wpAny (model P w) A (pyIter (.ref I)) Q E s
/-- the pairs, each new -/
def Itp (n : Nat) (as bs : List V) (src : Hp → Prop) : It :=
  ⟨fun i H => i < n ∧ src H, fun i H x H' => ∃ T a b, x = .ref T ∧ H T = none ∧ H' = upd H T (.tup [a, b]) ∧ as[i]? = some a ∧ bs[i]? = some b, fun i H => i = n ∧ src H⟩
theorem turn_pairs {P : Program} {w : World} {K : PySem.W.Frag} {elts : List Expr} {kk : Nat} {tpos : Pos} {I : Addr} {fp : List Addr} {n : Nat} {as bs : List V} {src : Hp → Prop} {tn : Nat → Heap → Prop} (S : PairSrc P w K I fp n as bs src tn) :
    Turn P w K (.Tuple elts kk tpos) (Itp n as bs src) fp I tn where
  mem := S.mem
  obj := S.obj
  keep := S.keep
  self := S.self
  item := by
    intro X e1 e2 e3 hc i pins s σ H E Iv hf st hg
    obtain ⟨hi, hs⟩ := hg
    obtain ⟨fw, wr, Pt, St, Mid, W, sub, to, back, vals⟩ := S.walk X e1 e2 e3 hc pins s σ H Iv hs
    have low : ∀ b ∈ fp, b < s.heap.objs.size := fun b hb => by
      obtain ⟨o, ho, _⟩ := S.obj i _ st b hb
      exact Heap.lt_size ho
    refine W.item i s _ _ hi (to i st) fun T vs h' tk hp hT isT mid kp => ⟨_, rfl, W.go elts kk tpos i T { s with heap := h', toks := tk } _ _ mid fun h2 st2 kp2 => ?_⟩
    obtain ⟨x, y, u, v, ev, hx, hy, ru, rv⟩ := vals i vs hi hp
    subst ev e1 e2 e3
    have apt := W.apart i T h' mid
    have isT2 : h2.IsTuple T #[u, v] := isT.at fun o e => kp2 T o apt e
    have new : ObjOk X.prog X.w (upd H T (.tup [x, y])) h2 T (.tup [x, y]) := ⟨(by show 2 ≤ sizeLine; decide), [u, v], .cons ru (.cons rv .nil), isT2⟩
    have free : H T = none := Iv.hok.fresh hT
    refine ⟨.ref T, _, Iv.turnedNew (ch := fp) (fun b o hb e => kp2 b o (fun z => hb (sub b z)) (kp b o (fun z => hb (sub b z)) e)) hf hT new, rfl, ⟨T, x, y, rfl, free, rfl, hx, hy⟩, back _ _ st2, fun b hb => ?_⟩
    rw [upd_ne (Nat.ne_of_lt (Nat.lt_of_lt_of_le (low b hb) hT))]
    exact (hf b hb).1
  done := by
    intro X e1 e2 e3 hc i pins s σ H E Iv hf st hg
    obtain ⟨hi, hs⟩ := hg
    obtain ⟨fw, wr, Pt, St, Mid, W, sub, to, back, vals⟩ := S.walk X e1 e2 e3 hc pins s σ H Iv hs
    subst hi e1 e2 e3
    exact W.done s _ _ (to _ st) fun h' tk kp => ⟨rfl, Iv.turnedL (t' := tk) (ch := fp) (fun b o hb e => kp b o (fun z => hb (sub b z)) e) hf⟩
/-- data behind pairs -/
theorem itp_ok {K : PySem.W.Frag} {F1 : Hp} {n : Nat} {as bs : List V} {src : Hp → Prop} {xs ys ds : List D} (hs : ∀ F H, Same F1 F → Same F H → src H) (hn : n = ds.length) (ra : RepL K F1 as xs) (rb : RepL K F1 bs ys)
    (hd : ∀ (i : Nat) (d : D), ds[i]? = some d → ∃ x y : D, xs[i]? = some x ∧ ys[i]? = some y ∧ d = D.tup [x, y]) : ItOk K F1 (Itp n as bs src) ds := by
  refine ⟨fun F H i d s1 s2 e => ?_, fun F H s1 s2 => ⟨hn.symm, hs F H s1 s2⟩⟩
  obtain ⟨x, y, ex, ey, rfl⟩ := hd i d e
  have hi : i < n := by rw [hn]; exact (List.getElem?_eq_some_iff.mp e).1
  refine ⟨⟨hi, hs F H s1 s2⟩, fun v H' yy => ?_⟩
  obtain ⟨T, a, b, rfl, nT, rfl, ha, hb⟩ := yy
  obtain ⟨a', a1, a2⟩ := ra.get ex
  obtain ⟨b', b1, b2⟩ := rb.get ey
  rw [ha] at a1
  rw [hb] at b1
  cases a1
  cases b1
  exact pair_new s2 nT (a2.mono s1) (b2.mono s1)
/-! enumerate of a tuple -/
section
variable {P : Program} {w : World} {K : PySem.W.Frag}
theorem enum_new {v : Value} {o : Obj} {Hh : Heap → Prop} (B : Begins v o Hh) : Meets (Builtin.«enumerate.__new__» ⟨[.type "enumerate", v], []⟩) (fun _ R s => Hh s.heap ∧
      R (.ok (.ret (.ref (s.heap.push o).objs.size))) { s with heap := (s.heap.push o).push { cls := .type "enumerate", data := .fields #[.none, .bool false, .ref s.heap.objs.size, rawInt 0, .none, .none] } }) :=
  .of_wp fun prog w A R s h => by
    obtain ⟨hp, g, d, tk, os⟩ := s
    obtain ⟨h1, h⟩ := h
    have sube := sub_enumerate
    have it {A' : Around} {E : Value → Shared → Prop} {Q : Value → Shared → Prop} (q : Q (.ref hp.objs.size) ⟨hp.push o, g, d, tk, os⟩) : wpAny (model prog w) A' (pyIter v) Q E ⟨hp, g, d, tk, os⟩ := B.iter prog w A' E ⟨hp, g, d, tk, os⟩ Q h1 q
    wp_walk using it
    refine wpAny_stack_any fun st => wpAny_pure ?_
    split
    · rename_i c _ _ _ _ _
      cases (c == Value.type "enumerate") <;> (wp_walk using it; exact ⟨_, rfl, h⟩)
    · wp_walk using it
      exact ⟨_, rfl, h⟩
theorem call_enumB {A : Around} {E : Value → Shared → Prop} {s : Shared} {v : Value} {o : Obj} {Hh : Heap → Prop} {Q : Value → Shared → Prop} (B : Begins v o Hh) (h1 : Hh s.heap)
    (h : ∀ h', IsEnum h' (s.heap.objs.size + 1) s.heap.objs.size 0 .none → h'.get? s.heap.objs.size = some o → (∀ b o, s.heap.get? b = some o → h'.get? b = some o) → Q (.ref (s.heap.objs.size + 1)) { s with heap := h' }) :
    wpAny (model P w) A (call (.type "enumerate") [v]) Q E s := by
  refine callType_new F.called_enumerate (by decide) (F.typeCall_enumerate_1 _) (F.newCall_enumerate_1 _) (fun obj => F.args_object_init_2 obj _) F.entry_enumerate_new (enum_new B) ⟨h1, ?_⟩
  have sz : (s.heap.push o).objs.size = s.heap.objs.size + 1 := by rw [Heap.size_push]
  show _ ∧ _
  rw [sz]
  have is : IsEnum ((s.heap.push o).push { cls := .type "enumerate", data := .fields #[.none, .bool false, .ref s.heap.objs.size, rawInt 0, .none, .none] }) (s.heap.objs.size + 1) s.heap.objs.size 0 .none := sz ▸ Heap.get?_push_size (s.heap.push o) rfl
  exact ⟨⟨_, is, rfl⟩, h _ is (Heap.get?_push_of_some _ (Heap.get?_push_size _ B.free)) fun b o' e => Heap.get?_push_of_some _ (Heap.get?_push_of_some _ e)⟩
theorem enumT_src {a e it : Addr} {vs : List V} (h1 : e ≠ it) (h2 : a ≠ it) (h3 : a ≠ e) : PairSrc P w K e [e, it] vs.length ((List.range vs.length).map fun i : Nat => V.int (i : Nat)) vs (fun H => SqT K H a vs) (fun i h => (∃ old, IsEnum h e it ((i : Nat) : Int) old) ∧ h.IsTupleIter it a i) where
  mem := List.mem_cons_self
  obj := fun i h ⟨⟨old, he⟩, o, ho, _, hd⟩ b hb => by
    rcases List.mem_cons.mp hb with rfl | hb
    · exact ⟨_, he, fun v z => nomatch z⟩
    · rw [List.mem_singleton.mp hb]; exact ⟨o, ho, fun v z => by rw [hd] at z; cases z⟩
  keep := fun i h h' ⟨⟨old, he⟩, hi⟩ k => ⟨⟨old, k e List.mem_cons_self _ he⟩, hi.at fun o q => k it (List.mem_cons_of_mem _ List.mem_cons_self) o q⟩
  self := fun A i s Q E ⟨⟨_, he⟩, _⟩ h => wpAny_pyIter_enum he h
  walk := fun X e1 e2 e3 hc pins s σ H Iv hs => by
    subst e1 e2 e3
    obtain ⟨its, rv, p, hz⟩ := Iv.tuple hs
    have W := WalksT.enumerateD (Draws.tuple (prog := X.prog) (w := X.w) (A := X.A.in1) (Iv.ok.hd hc) it a h2 its.toArray) e h1 (fun z => by
      rcases List.mem_cons.mp z with z | z
      · exact h1 z
      · exact h3 (List.mem_singleton.mp z).symm) List.mem_cons_self
    rw [show its.toArray.size = vs.length by rw [List.size_toArray, rv.length]] at W
    refine ⟨_, _, _, _, _, W, fun b hb => hb, fun i st => ⟨st.1, st.2, p⟩, fun i h st => ⟨st.1, st.2.1⟩, fun i vals hi hp => ?_⟩
    obtain ⟨t, x, hx, rfl⟩ := hp
    have hv : vs[i]? = some vs[i] := List.getElem?_eq_getElem hi
    obtain ⟨u, hu, ru⟩ := rv.get hv
    have ex : x = u := by
      have hx : its.toArray[i]? = some x := hx
      rw [List.getElem?_toArray, hu] at hx
      exact (Option.some.inj hx).symm
    subst ex
    exact ⟨.int (i : Nat), vs[i], _, _, rfl, by rw [List.getElem?_map, List.getElem?_range hi]; rfl, hv, ⟨t, rfl⟩, ru⟩
end
def iEnumT (K : PySem.W.Frag) (ta : TA) : TI := fun σ H R => ta σ H fun vs H1 => ∃ a xs, vs = [.ref a] ∧ SqT K H1 a xs ∧ R (Itp xs.length ((List.range xs.length).map fun i : Nat => V.int (i : Nat)) xs (fun H => SqT K H a xs)) H1
section
variable {X : Cx} {tg e e2 : Expr} {elts : List Expr} {kk : Nat} {p pos tpos : Pos} {ta : TA} {ma mb : ME}
theorem pi_enumT (hg : Gl X "enumerate") (hm : X.mg "enumerate" = none) (ha : PA X [e] ta) (hs : starEach [e] X.env = [(false, eval e X.env)] := by rfl) :
    PI X (.Tuple elts kk tpos) (.Call (.Name "enumerate" p) [e] [] pos) (iEnumT X.K ta) := by
  refine ⟨fun pins s σ H R I h => Call_ (ld_blt I hg hm boot_enumerate (PyProof.Rows.callWith_type1 (thn (ha.run pos pins s σ H _ I h) fun us s1 ⟨vs, H1, I1, r1, q1⟩ => ?_) hs rfl))⟩
  obtain ⟨a, xs, ex, hq, q⟩ := q1
  subst ex
  cases r1 with
  | cons r rr =>
    cases rr
    cases r
    obtain ⟨its, rv, pt, hz⟩ := I1.tuple hq
    have la : a < s1.heap.objs.size := by obtain ⟨o, ho, _⟩ := pt; exact Heap.lt_size ho
    refine call_enumB (begins_tuple a its.toArray) pt fun h' he hit hk => wpAny_pyIter_enum he ?_
    refine ⟨s1.heap.objs.size + 1, [s1.heap.objs.size + 1, s1.heap.objs.size], _, _, H1, rfl, I1.kept (t' := s1.toks) hk, turn_pairs (enumT_src (a := a) (e := s1.heap.objs.size + 1) (it := s1.heap.objs.size) (Nat.succ_ne_self _) (Nat.ne_of_lt la) (Nat.ne_of_lt (Nat.lt_succ_of_lt la))), ⟨⟨.none, he⟩, ⟨_, hit, rfl, rfl⟩⟩, fun b hb => ?_, q⟩
    have hle : s1.heap.objs.size ≤ b := by
      rcases List.mem_cons.mp hb with z | z
      · rw [z]; exact Nat.le_succ _
      · rw [List.mem_singleton.mp z]; exact Nat.le_refl _
    exact I1.fpOk hle (I1.hok.fresh hle)
/-- enumerate of a list, of a tuple -/
def enumIn : D → Option (List D)
  | .lst xs => some (enumD xs)
  | .tup xs => some (enumD xs)
  | _ => none
def mEnumA (a : ME) : ML := fun Γ => (a Γ).bind enumIn
theorem i_enum (hg : Gl X "enumerate") (hm : X.mg "enumerate" = none) (ha : PE X e (rdE X.K ma)) (hs2 : starEach [e] X.env = (false, eval e X.env) :: starEach [] X.env := by rfl) : PI X (.Tuple elts kk tpos) (.Call (.Name "enumerate" p) [e] [] pos) (rdI X.K (mEnumA ma)) :=
  PI_wk (PI_or (pi_enum hg hm (r_pcons ha r_pnil hs2) hs2) (pi_enumT hg hm (r_pcons ha r_pnil hs2) hs2)) fun σ H R ⟨H0, F, Γ, xs, R0, z, q⟩ => by
    obtain ⟨x, e1, z⟩ := Option.bind_eq_some_iff.mp z
    have ea : mCons ma mNil Γ = some [x] := by simp only [mCons, mNil, e1, Option.bind_some]
    unfold enumIn at z
    split at z
    · cases z
      refine .inl ⟨H0, F, Γ, _, R0, ea, fun vs H' F' E r => ?_⟩
      cases r with
      | cons r1 r =>
        cases r
        obtain ⟨a, us, rfl, h1, q1⟩ := r1.lstI
        exact ⟨a, us, rfl, .of (E.fh _ _ h1), q _ H' F' E (ite_ok h1 q1)⟩
    · cases z
      refine .inr ⟨H0, F, Γ, _, R0, ea, fun vs H' F' E r => ?_⟩
      cases r with
      | cons r1 r =>
        cases r
        obtain ⟨a, us, rfl, h1, q1⟩ := r1.tupI
        refine ⟨a, us, rfl, .of (E.fh _ _ h1), q _ H' F' E (itp_ok (xs := (List.range us.length).map fun i : Nat => D.int (i : Nat)) (fun F H s1 s2 => .of (s2 _ _ (s1 _ _ h1))) (by rw [enumD_len, q1.length]) ?_ q1 fun i d e => ?_)⟩
        · generalize List.range us.length = l
          induction l with
          | nil => exact .nil
          | cons j l ih => exact .cons (.int _) ih
        · obtain ⟨y, g1, rfl⟩ := enumD_get e
          have hi : i < us.length := by rw [q1.length]; exact (List.getElem?_eq_some_iff.mp g1).1
          exact ⟨.int (i : Nat), y, by rw [List.getElem?_map, List.getElem?_range hi]; rfl, g1, rfl⟩
    · cases z
end
/-! zip of a tuple and a text -/
section
variable {P : Program} {w : World} {K : PySem.W.Frag}
def strV (x : Str) : List V := x.cps.toList.map fun c => V.str ⟨#[c]⟩
theorem zipTS_src {a N : Addr} {vs : List V} {x : Str} {t : Tok} (la : a < N) : PairSrc P w K (N + 4) [N + 4, N + 2, N + 3, N, N + 1] (min vs.length x.cps.size) vs (strV x) (fun H => SqT K H a vs)
    (fun i h => IsZip h (N + 4) (N + 2) (N + 3) .none ∧ IsTupOf2 h (N + 2) (.ref N) (.ref (N + 1)) ∧ (∃ a1 a2, IsTupOf2 h (N + 3) a1 a2) ∧ h.IsTupleIter N a i ∧ h.IsStrIter (N + 1) (strIterType x) x t i) where
  mem := List.mem_cons_self
  obj := fun i h ⟨hz, hTI, ⟨a1, a2, hTO⟩, ⟨o1, g1, _, d1⟩, ⟨o2, g2, _, d2⟩⟩ b hb => by
    rcases List.mem_cons.mp hb with rfl | hb
    · exact ⟨_, hz, fun v z => nomatch z⟩
    rcases List.mem_cons.mp hb with rfl | hb
    · exact ⟨_, hTI, fun v z => nomatch z⟩
    rcases List.mem_cons.mp hb with rfl | hb
    · exact ⟨_, hTO, fun v z => nomatch z⟩
    rcases List.mem_cons.mp hb with rfl | hb
    · exact ⟨o1, g1, fun v z => by rw [d1] at z; cases z⟩
    · rw [List.mem_singleton.mp hb]; exact ⟨o2, g2, fun v z => by rw [d2] at z; cases z⟩
  keep := fun i h h' ⟨hz, hTI, ⟨a1, a2, hTO⟩, h1, h2⟩ k => ⟨k _ (by simp) _ hz, k _ (by simp) _ hTI, ⟨a1, a2, k _ (by simp) _ hTO⟩, h1.at fun o q => k _ (by simp) o q, let ⟨o2, g2, r2⟩ := h2; ⟨o2, k _ (by simp) _ g2, r2⟩⟩
  self := fun A i s Q E st h => wpAny_pyIter_zip st.1 h
  walk := fun X e1 e2 e3 hc pins s σ H Iv hs => by
    subst e1 e2 e3
    obtain ⟨its, rv, p, hz⟩ := Iv.tuple hs
    have nN (j : Nat) (b : Addr) (hb : b < N + 1 + j) : b ≠ N + 1 + j := Nat.ne_of_lt hb
    have S : ZipSep2 (N + 4) (N + 2) (N + 3) N (N + 1) [N, a] [N + 1] := by
      have ha : ∀ j : Nat, N + j ≠ a := fun j => Nat.ne_of_gt (Nat.lt_of_lt_of_le la (Nat.le_add_right N j))
      have hd : ∀ i j : Nat, i ≠ j → (N + i : Nat) ≠ N + j := fun i j h z => h (Nat.add_left_cancel z)
      refine ⟨hd 2 4 (by decide), hd 3 4 (by decide), hd 2 3 (by decide), hd 2 0 (by decide), by simp, fun z => ?_, fun z => ?_, hd 2 1 (by decide), by simp, fun z => ?_, fun z => ?_, fun z => ?_, fun z => ?_⟩
      · rcases List.mem_cons.mp z with z | z
        · exact hd 4 0 (by decide) z
        · exact ha 4 (List.mem_singleton.mp z)
      · rcases List.mem_cons.mp z with z | z
        · exact hd 3 0 (by decide) z
        · exact ha 3 (List.mem_singleton.mp z)
      · exact hd 4 1 (by decide) (List.mem_singleton.mp z)
      · exact hd 3 1 (by decide) (List.mem_singleton.mp z)
      · exact hd 0 1 (by decide) (List.mem_singleton.mp z)
      · rcases List.mem_cons.mp z with z | z
        · exact hd 1 0 (by decide) z
        · exact ha 1 (List.mem_singleton.mp z)
    have W := WalksT.zipD2 S (Draws.tuple (prog := X.prog) (w := X.w) (A := X.A.in1) (Iv.ok.hd hc) N a (Nat.ne_of_lt la) its.toArray) (Draws.text (prog := X.prog) (w := X.w) (A := X.A.in1) (Iv.ok.hd hc) (N + 1) x t)
    rw [show its.toArray.size = vs.length by rw [List.size_toArray, rv.length]] at W
    refine ⟨_, _, _, _, _, W, fun b hb => ?_, fun i st => ⟨st.1, st.2.1, st.2.2.1, ⟨st.2.2.2.1, p⟩, st.2.2.2.2⟩, fun i h st => ⟨st.1, st.2.1, st.2.2.1, st.2.2.2.1.1, st.2.2.2.2⟩, fun i vals hi hp => ?_⟩
    · simp only [List.mem_cons, List.not_mem_nil, or_false] at hb ⊢
      rcases hb with h | h | h | h
      · exact .inl h
      · exact .inr (.inr (.inl h))
      · exact .inr (.inr (.inr (.inl h)))
      · exact .inr (.inr (.inr (.inr h)))
    · obtain ⟨u, v, hu, ⟨c, tk, hc2, rfl⟩, rfl⟩ := hp
      have hi1 : i < vs.length := by omega
      have hv : vs[i]? = some vs[i] := List.getElem?_eq_getElem hi1
      obtain ⟨u', hu', ru⟩ := rv.get hv
      have ex : u = u' := by
        have hx : its.toArray[i]? = some u := hu
        rw [List.getElem?_toArray, hu'] at hx
        exact (Option.some.inj hx).symm
      subst ex
      refine ⟨vs[i], .str ⟨#[c]⟩, _, _, rfl, hv, ?_, ru, ⟨tk, rfl⟩⟩
      unfold strV
      rw [List.getElem?_map, Array.getElem?_toList, hc2]; rfl
end
def iZipTS (K : PySem.W.Frag) (ta : TA) : TI := fun σ H R => ta σ H fun vs H1 => ∃ a x xs, vs = [.ref a, .str x] ∧ SqT K H1 a xs ∧ R (Itp (min xs.length x.cps.size) xs (strV x) (fun H => SqT K H a xs)) H1
section
variable {X : Cx} {tg e e2 : Expr} {elts : List Expr} {kk : Nat} {p pos tpos : Pos} {ta : TA} {ma mb : ME}
theorem pi_zipTS (hg : Gl X "zip") (hm : X.mg "zip" = none) (ha : PA X [e, e2] ta) (hs : starEach [e, e2] X.env = (false, eval e X.env) :: starEach [e2] X.env := by rfl) (hpl : (backTo pos (starEach [e2] X.env)).any (·.1) = false := by rfl) :
    PI X (.Tuple elts kk tpos) (.Call (.Name "zip" p) [e, e2] [] pos) (iZipTS X.K ta) := by
  refine ⟨fun pins s σ H R I h => Call_ (ld_blt I hg hm PyProof.Rows.boot_zip (PyProof.Rows.callWith_type1 (thn (ha.run pos pins s σ H _ I h) fun us s1 ⟨vs, H1, I1, r1, q1⟩ => ?_) hs hpl))⟩
  obtain ⟨a, x, xs, ex, hq, q⟩ := q1
  subst ex
  cases r1 with
  | cons r rr =>
    cases rr with
    | cons r' rr =>
      cases rr
      cases r
      obtain ⟨t, rfl⟩ := r'
      obtain ⟨its, rv, pt, hz⟩ := I1.tuple hq
      have la : a < s1.heap.objs.size := by obtain ⟨o, ho, _⟩ := pt; exact Heap.lt_size ho
      refine zip_begins2 (begins_tuple a its.toArray) (begins_text x t) pt trivial fun h' hz hTI hTO g1 g2 hsz hk => wpAny_pyIter_zip hz ?_
      refine ⟨s1.heap.objs.size + 4, [s1.heap.objs.size + 4, s1.heap.objs.size + 2, s1.heap.objs.size + 3, s1.heap.objs.size, s1.heap.objs.size + 1], _, _, H1, rfl, I1.kept (t' := s1.toks) hk, turn_pairs (zipTS_src (t := t) la), ⟨hz, hTI, ⟨_, _, hTO⟩, ⟨_, g1, rfl, rfl⟩, ⟨_, g2, rfl, rfl⟩⟩, fun b hb => ?_, q⟩
      have hle : s1.heap.objs.size ≤ b := by
        simp only [List.mem_cons, List.not_mem_nil, or_false] at hb
        rcases hb with z | z | z | z | z
        · rw [z]; exact Nat.le_add_right _ 4
        · rw [z]; exact Nat.le_add_right _ 2
        · rw [z]; exact Nat.le_add_right _ 3
        · rw [z]; exact Nat.le_refl _
        · rw [z]; exact Nat.le_add_right _ 1
      exact I1.fpOk hle (I1.hok.fresh hle)
/-- two lists, two tuples, a tuple and a text -/
def strD (x : Str) : List D := x.cps.toList.map fun c => D.str ⟨#[c]⟩
def zipTS : D → D → Option (List D)
  | .tup xs, .str x => some (zipD xs (strD x))
  | _, _ => none
theorem zipTS_some {x y : D} {r : List D} (h : zipTS x y = some r) : ∃ us t, x = .tup us ∧ y = .str t ∧ r = zipD us (strD t) := by
  unfold zipTS at h
  split at h
  · cases h; exact ⟨_, _, rfl, rfl, rfl⟩
  · cases h
def zipIn3 (x y : D) : Option (List D) := match zipIn x y with
  | some r => some r
  | none => zipTS x y
def mZipC (a b : ME) : ML := fun Γ => (a Γ).bind fun x => (b Γ).bind fun y => zipIn3 x y
theorem rep_chars {K : PySem.W.Frag} {F : Hp} (x : Str) : RepL K F (strV x) (strD x) := by
  unfold strV strD
  generalize x.cps.toList = l
  induction l with
  | nil => exact .nil
  | cons c l ih => exact .cons (.str _) ih
theorem i_zipC (hg : Gl X "zip") (hm : X.mg "zip" = none) (ha : PE X e (rdE X.K ma)) (hb : PE X e2 (rdE X.K mb)) (hs : starEach [e, e2] X.env = (false, eval e X.env) :: starEach [e2] X.env := by rfl)
    (hs2 : starEach [e2] X.env = (false, eval e2 X.env) :: starEach [] X.env := by rfl) (hpl : ∀ p, (backTo p (starEach [e2] X.env)).any (·.1) = false := by intro _; rfl) :
    PI X (.Tuple elts kk tpos) (.Call (.Name "zip" p) [e, e2] [] pos) (rdI X.K (mZipC ma mb)) :=
  PI_wk (PI_or (i_zip hg hm ha hb hs hs2 hpl) (pi_zipTS hg hm (r_pcons ha (r_pcons hb r_pnil hs2) hs) hs (hpl _))) fun σ H R ⟨H0, F, Γ, xs, R0, z, q⟩ => by
    obtain ⟨x, e1, z⟩ := Option.bind_eq_some_iff.mp z
    obtain ⟨y, e2, z⟩ := Option.bind_eq_some_iff.mp z
    unfold zipIn3 at z
    split at z
    · rename_i r hr
      cases z
      exact .inl ⟨H0, F, Γ, _, R0, by unfold mZipA; rw [e1, e2]; exact hr, q⟩
    · obtain ⟨us, t, rfl, rfl, rfl⟩ := zipTS_some z
      · skip
        refine .inr ⟨H0, F, Γ, [.tup us, .str t], R0, by simp only [mCons, mNil, e1, e2, Option.bind_some], fun vs H' F' E r => ?_⟩
        cases r with
        | cons r1 r =>
          cases r with
          | cons r2 r =>
            cases r
            obtain ⟨a, ws, rfl, h1, q1⟩ := r1.tupI
            obtain rfl : _ = V.str t := (show RepB X.K F' H' _ (.str t) from .inl r2).str
            refine ⟨a, t, ws, rfl, .of (E.fh _ _ h1), q _ H' F' E (itp_ok (fun F H s1 s2 => .of (s2 _ _ (s1 _ _ h1))) ?_ q1 (rep_chars t) fun i d e => zipD_get e)⟩
            rw [zipD_len, q1.length]
            unfold strD
            rw [List.length_map, Array.length_toList]; rfl
end
end SK

set_option Elab.async false
set_option linter.all false
set_option maxRecDepth 100000
set_option maxHeartbeats 4000000
set_option autoImplicit false
namespace SK
open PySem PySem.Spec PyProof.Rows L2

/-! ### sorted of tuples of ints -/
def lexL : List Int → List Int → Bool
  | [], ys => decide (0 < ys.length)
  | _ :: _, [] => false
  | x :: xs, y :: ys => if x = y then lexL xs ys else decide (x < y)
theorem lexL_irr : ∀ xs : List Int, lexL xs xs = false
  | [] => rfl
  | x :: xs => by unfold lexL; rw [if_pos rfl]; exact lexL_irr xs
theorem lexL_asym : ∀ xs ys : List Int, lexL xs ys = true → lexL ys xs = false
  | [], [], h => rfl
  | [], _ :: _, _ => rfl
  | _ :: _, [], h => nomatch h
  | x :: xs, y :: ys, h => by
    unfold lexL at h ⊢
    by_cases e : x = y
    · rw [if_pos e] at h; rw [if_pos e.symm]; exact lexL_asym xs ys h
    · rw [if_neg e] at h; rw [if_neg (Ne.symm e)]
      have := of_decide_eq_true h
      exact decide_eq_false (by omega)
theorem lexL_tot : ∀ xs ys : List Int, lexL xs ys = false → lexL ys xs = false → xs = ys
  | [], [], _, _ => rfl
  | [], _ :: _, h, _ => by
    have h : decide (0 < (_ :: _ : List Int).length) = false := h
    exact absurd (of_decide_eq_false h) (by rw [List.length_cons]; omega)
  | _ :: _, [], _, h => by
    have h : decide (0 < (_ :: _ : List Int).length) = false := h
    exact absurd (of_decide_eq_false h) (by rw [List.length_cons]; omega)
  | x :: xs, y :: ys, h, k => by
    unfold lexL at h k
    by_cases e : x = y
    · rw [if_pos e] at h; rw [if_pos e.symm] at k; rw [e, lexL_tot xs ys h k]
    · rw [if_neg e] at h; rw [if_neg (Ne.symm e)] at k
      have := of_decide_eq_false h
      have := of_decide_eq_false k
      omega
theorem lexL_tr : ∀ xs ys zs : List Int, lexL ys xs = false → lexL zs ys = false → lexL zs xs = false
  | xs, [], zs, h, k => by
    cases xs with
    | nil => exact k
    | cons x xs =>
      have h : decide (0 < (x :: xs).length) = false := h
      exact absurd (of_decide_eq_false h) (by rw [List.length_cons]; omega)
  | xs, y :: ys, [], h, k => by
    have k : decide (0 < (y :: ys).length) = false := k
    exact absurd (of_decide_eq_false k) (by rw [List.length_cons]; omega)
  | [], y :: ys, z :: zs, h, k => rfl
  | x :: xs, y :: ys, z :: zs, h, k => by
    unfold lexL at h k ⊢
    by_cases e1 : y = x
    · rw [if_pos e1] at h
      by_cases e2 : z = y
      · rw [if_pos e2] at k; rw [if_pos (e2.trans e1)]; exact lexL_tr xs ys zs h k
      · rw [if_neg e2] at k; rw [if_neg (by omega)]
        have := of_decide_eq_false k
        exact decide_eq_false (by omega)
    · rw [if_neg e1] at h
      have h1 := of_decide_eq_false h
      by_cases e2 : z = y
      · rw [if_neg (by omega)]; exact decide_eq_false (by omega)
      · rw [if_neg e2] at k
        have := of_decide_eq_false k
        rw [if_neg (by omega)]; exact decide_eq_false (by omega)
def IsTupI (h : Heap) (v : Value) (ns : List Int) : Prop := ∃ a o us n, v = .ref a ∧ h.get? a = some o ∧ o.cls = .type "tuple" ∧ o.data = .seq us n ∧ IntsAre us.toList ns
theorem IsTupI.keeps {h h' : Heap} {v : Value} {ns : List Int} (p : IsTupI h v ns) (k : ∀ b o, h.get? b = some o → o.cls = .type "tuple" → h'.get? b = some o) : IsTupI h' v ns := by
  obtain ⟨a, o, us, n, e, ho, hc, r⟩ := p
  exact ⟨a, o, us, n, e, k a o ho hc, hc, r⟩
section
variable {prog : Program} {w : World} {A : Around} {E : Value → Shared → Prop} {s : Shared}
theorem kat_ints {b : Bool} : ∀ (us vs : List Value) (ns ms : List Int) (i : Nat) (fin : Bool), IntsAre us ns → IntsAre vs ms → fin = decide (ns.length < ms.length) → PySem.W.KatLex prog w A b fin (fun r s' => s' = s ∧ r = lexL ns ms) (us.zip vs) i s
  | _, _, _, _, i, fin, .nil, .nil, hf => PySem.W.kat_nil ⟨rfl, hf⟩
  | _, _, _, _, i, fin, .nil, .cons y t r, hf => PySem.W.kat_nil ⟨rfl, by rw [hf]; rfl⟩
  | _, _, _, _, i, fin, .cons x t r, .nil, hf => PySem.W.kat_nil ⟨rfl, by rw [hf]; exact decide_eq_false (by rw [List.length_nil]; omega)⟩
  | _, _, _, _, i, fin, .cons x t r, .cons y u q, hf => by
    rw [List.zip_cons_cons]
    refine PySem.W.kat_cons (SeqAt.EqAt.int_int x t y u prog w _ _ (PySem.W.kat_go (fun e1 => ?_) fun e1 => ?_))
    · have e : x = y := by simpa using e1
      refine PySem.W.kat_yes ?_
      have := kat_ints (b := b) _ _ _ _ (i + 1) fin r q (by rw [hf]; simp only [List.length_cons, Nat.add_lt_add_iff_right])
      unfold lexL
      rw [if_pos e]; exact this
    · have e : ¬ x = y := by simpa using e1
      refine PySem.W.kat_no (TS.oneLt_ints _ (Q := fun r s' => s' = s ∧ r = lexL (x :: _) (y :: _)) ⟨rfl, ?_⟩)
      unfold lexL
      rw [if_neg e]
theorem tupI_cmp {vs : List Value} {k : Value → List Int} (hp : ∀ v ∈ vs, IsTupI s.heap v (k v)) : SrtO.Cmp prog w A s (tuples' true) (fun p => p.1 ∈ vs) (SrtO.lt2 fun v u => lexL (k v) (k u)) := by
  intro p q hm hm'
  have h1 := hp _ hm
  have h2 := hp _ hm'
  show wpAny (model prog w) A (keyLt' (tuples' true) p.1 q.1) (fun r s' => s' = s ∧ r = lexL (k p.1) (k q.1)) (fun _ _ => False) s
  generalize k p.1 = ns at h1 ⊢
  generalize k q.1 = ms at h2 ⊢
  obtain ⟨a, o, us, n, e, ho, hc, hd, hi⟩ := h1
  obtain ⟨a', o', us', n', e', ho', hc', hd', hi'⟩ := h2
  rw [e, e']
  have l1 := IntsAre.length hi
  have l2 := IntsAre.length hi'
  rw [Array.length_toList] at l1 l2
  exact PySem.W.kat_lt ho hd ho' hd' (kat_ints _ _ _ _ 0 _ hi hi' (by rw [l1, l2]))
theorem tupI_firsts {h : Heap} {k : Value → List Int} : ∀ {vs : List Value}, (∀ v ∈ vs, IsTupI h v (k v) ∧ k v ≠ []) → ∃ fs : List Value, PySem.W.KatTups h vs fs ∧ fs.length = vs.length ∧ ∀ f ∈ fs, ∃ x t, f = Value.int x t
  | [], _ => ⟨[], PySem.W.KatTups.nil, rfl, fun _ hm => absurd hm List.not_mem_nil⟩
  | v :: vs, hp => by
    obtain ⟨fs, h1, h2, h3⟩ := tupI_firsts (vs := vs) fun v' hm => hp v' (List.mem_cons_of_mem _ hm)
    obtain ⟨⟨a, o, us, n, e, ho, hc, hd, hi⟩, ne⟩ := hp v List.mem_cons_self
    generalize k v = ns at hi ne
    subst e
    obtain ⟨ul⟩ := us
    have hi : IntsAre ul ns := hi
    cases hi with
    | nil => exact absurd rfl ne
    | cons x t r => exact ⟨.int x t :: fs, PySem.W.KatTups.cons ho hc hd rfl h1, by rw [List.length_cons, List.length_cons, h2], fun f hm => by
        rcases List.mem_cons.mp hm with rfl | hm
        · exact ⟨x, t, rfl⟩
        · exact h3 f hm⟩
theorem tupI_sortable {a : Addr} {vs : List Value} {k : Value → List Int} (h0 : 0 < vs.length) (hp : ∀ v ∈ vs, IsTupI s.heap v (k v) ∧ k v ≠ []) (ha : ∀ o, s.heap.get? a = some o → o.cls ≠ .type "tuple") : SrtO.SortableO prog w A s a vs fun v u => lexL (k v) (k u) := by
  intro h' kp
  have hp' : ∀ v ∈ vs, IsTupI h' v (k v) ∧ k v ≠ [] := fun v hm => ⟨(hp v hm).1.keeps fun b o e c => kp b o (fun z => by subst z; exact ha o e c) e, (hp v hm).2⟩
  obtain ⟨fs, h1, h2, h3⟩ := tupI_firsts hp'
  refine ⟨tuples' true, fun Q E hq => PySem.W.kat_kind (T := .type "int") h1 (by omega) (fun f hm => ?_) (by rfl) ?_, tupI_cmp fun v hm => (hp' v hm).1⟩
  · obtain ⟨x, t, rfl⟩ := h3 f hm
    exact PySem.W.Looks.now
  · rw [show (Value.type "int" != Value.type "tuple") = true by decide +kernel]
    exact hq
theorem sorted_tupI {l : Addr} {vs : List Value} {k : Value → List Int} {Q : Value → Shared → Prop} (hl : s.heap.IsList l vs.toArray) (hz : vs.length ≤ sizeLine) (hp : ∀ v ∈ vs, IsTupI s.heap v (k v) ∧ k v ≠ [])
    (h : ∀ (h' : Heap) (d : Addr) (out : List Value), SrtO.Srtd (fun v u => lexL (k v) (k u)) out → SrtO.Stb (fun v u => lexL (k v) (k u)) out vs → (∀ b o, s.heap.get? b = some o → h'.get? b = some o) → s.heap.objs.size ≤ d → (∃ n, h'.get? d = some (seqObj "list" out.toArray n)) → Q (.ref d) { s with heap := h' }) :
    wpAny (model prog w) A (call (.builtin "sorted") [.ref l]) Q E s := by
  have O : SrtO.Swo fun v u => lexL (k v) (k u) := ⟨fun x y h => lexL_asym _ _ h, fun x y z h1 h2 => lexL_tr _ _ _ h1 h2⟩
  refine SrtO.sorted_ord O hl hz (fun h2 h₁ a ha kk => ?_) fun out hs hb => ?_
  · refine tupI_sortable (s := { s with heap := h₁ }) (by omega) (fun v hm => ⟨(hp v hm).1.keeps fun b o e _ => (kk b o e).2, (hp v hm).2⟩) fun o e => ?_
    cases (show some o = some (seqObj "list" vs.toArray 0) from e.symm.trans ha)
    intro c
    exact absurd (Value.type.inj c) (by decide)
  · exact h _ _ out hs hb (fun b o e => sortedAll_old e) (Nat.le_succ _) (sortedAll_at s.heap vs out.toArray)
end
/-- sorted(xs), xs a list of tuples of ints, none empty -/
def rSortedTI (K : PySem.W.Frag) : List V → Hp → VK → Prop := fun vs H Q => ∃ (a : Addr) (xs : List V) (k : V → List Int), vs = [V.ref a] ∧ SqL K H a xs ∧ (∀ x ∈ xs, ∃ t, x = V.ref t ∧ H t = some (.tup ((k x).map V.int)) ∧ k x ≠ []) ∧
  ∀ ys p, ys.Pairwise (fun x y => lexL (k y) (k x) = false) → ys.Perm xs → H p = none → Q (.ref p) (upd H p (.lst ys))
theorem cr_sortedTI {X : Cx} : CallR X (.builtin "sorted") (rSortedTI X.K) := by
  intro pins s σ H vs us Q I r h
  obtain ⟨a, xs, k, rfl, hs, hx, q⟩ := h
  obtain ⟨its, rv, hl, hz⟩ := I.list hs
  obtain ⟨u, rfl, ru⟩ := vals1 r
  obtain rfl : u = Value.ref a := ru
  obtain ⟨e1, e2⟩ := refs_back rv fun x m => by
    obtain ⟨t, e, _⟩ := hx x m
    exact ⟨t, e⟩
  refine sorted_tupI (k := fun u => k (backV u)) hl.isList (by rw [← rv.length]; exact hz) (fun v hv => ?_) fun h' d out h1 h2 kp hd hn => ?_
  · obtain ⟨t, rfl⟩ := e2 v hv
    have hm : V.ref t ∈ xs := by rw [e1]; exact List.mem_map.mpr ⟨_, hv, rfl⟩
    obtain ⟨t', e, ht, ne⟩ := hx _ hm
    cases e
    refine ⟨?_, ne⟩
    obtain ⟨_, its2, r2, o, ho, hc, n, hd⟩ := I.hok _ _ ht
    exact ⟨t, o, its2.toArray, n, rfl, ho, hc, hd, by
      show IntsAre its2.toArray.toList (k (V.ref t))
      simpa using ints_of_vals r2⟩
  · have h3 : ∀ u ∈ out, ∃ a, u = Value.ref a := fun u hu => e2 u (h2.perm.mem_iff.mp hu)
    obtain ⟨n, hn⟩ := hn
    have hb : (out.map backV).Perm xs := by
      rw [e1]
      exact h2.perm.map backV
    refine ⟨.ref d, upd H d (.lst (out.map backV)), I.laid (t' := s.toks) kp hd ⟨?_, out, n, vals_back h3, hn⟩, rfl, q _ d (List.pairwise_map.mpr h1) hb (I.hok.fresh hd)⟩
    rw [hb.length_eq]
    exact hz
/-! as data -/
def tupOf : D → Option (List Int)
  | .tup xs => intsOf xs
  | _ => none
def tupsOf : List D → Option (List (List Int))
  | [] => some []
  | d :: r => (tupOf d).bind fun p => (tupsOf r).map (p :: ·)
def tupI (ns : List Int) : D := .tup (ns.map .int)
theorem intsOf_some : ∀ {ds : List D} {ns : List Int}, intsOf ds = some ns → ds = ns.map .int
  | [], _, h => by cases h; rfl
  | .int i :: ds, _, h => by
    obtain ⟨ms, e, rfl⟩ := Option.map_eq_some_iff.mp h
    rw [intsOf_some e]; rfl
  | .non :: _, _, h => nomatch h
  | .bl _ :: _, _, h => nomatch h
  | .str _ :: _, _, h => nomatch h
  | .tup _ :: _, _, h => nomatch h
  | .lst _ :: _, _, h => nomatch h
  | .scr _ :: _, _, h => nomatch h
theorem tupOf_some {d : D} {ns : List Int} (h : tupOf d = some ns) : d = tupI ns := by
  unfold tupOf at h
  split at h
  · rw [intsOf_some h]; rfl
  · cases h
theorem tupsOf_some : ∀ {ds : List D} {ps : List (List Int)}, tupsOf ds = some ps → ds = ps.map tupI
  | [], _, h => by cases h; rfl
  | d :: r, _, h => by
    obtain ⟨p, e, h⟩ := Option.bind_eq_some_iff.mp h
    obtain ⟨qs, e2, rfl⟩ := Option.map_eq_some_iff.mp h
    rw [tupOf_some e, tupsOf_some e2]; rfl
theorem tupsOf_map : ∀ ps : List (List Int), tupsOf (ps.map tupI) = some ps
  | [] => rfl
  | p :: ps => by
    show (intsOf (p.map .int)).bind (fun p => (tupsOf (ps.map tupI)).map (p :: ·)) = _
    rw [intsOf_map, tupsOf_map ps]; rfl
def insL (x : List Int) : List (List Int) → List (List Int)
  | [] => [x]
  | y :: ys => if lexL y x then y :: insL x ys else x :: y :: ys
def sortL : List (List Int) → List (List Int)
  | [] => []
  | x :: xs => insL x (sortL xs)
theorem insL_perm (x : List Int) : ∀ ys, (insL x ys).Perm (x :: ys)
  | [] => .refl _
  | y :: ys => by
    unfold insL
    split
    · exact ((insL_perm x ys).cons y).trans (.swap x y ys)
    · exact .refl _
theorem sortL_perm : ∀ xs, (sortL xs).Perm xs
  | [] => .refl _
  | x :: xs => (insL_perm x _).trans ((sortL_perm xs).cons x)
abbrev leL (x y : List Int) : Prop := lexL y x = false
theorem insL_sorted (x : List Int) : ∀ ys, ys.Pairwise leL → (insL x ys).Pairwise leL
  | [], _ => List.pairwise_singleton _ _
  | y :: ys, h => by
    unfold insL
    obtain ⟨h1, h2⟩ := List.pairwise_cons.mp h
    split
    · rename_i c
      refine List.pairwise_cons.mpr ⟨fun z hz => ?_, insL_sorted x ys h2⟩
      rcases List.mem_cons.mp ((insL_perm x ys).mem_iff.mp hz) with rfl | hz
      · exact lexL_asym _ _ c
      · exact h1 z hz
    · rename_i c
      have c' : leL x y := Bool.eq_false_iff.mpr c
      exact List.pairwise_cons.mpr ⟨fun z hz => by
        rcases List.mem_cons.mp hz with rfl | hz
        · exact c'
        · exact lexL_tr _ _ _ c' (h1 z hz), h⟩
theorem sortL_sorted : ∀ xs, (sortL xs).Pairwise leL
  | [] => .nil
  | x :: xs => insL_sorted x _ (sortL_sorted xs)
theorem sortL_eq {xs ys : List (List Int)} (p : ys.Perm xs) (s : ys.Pairwise leL) : ys = sortL xs :=
  perm_sorted_eq (fun a b h k => lexL_tot a b k h) (p.trans (sortL_perm xs).symm) s (sortL_sorted xs)
def dSortT : List D → Option D
  | [.lst xs] => (tupsOf xs).bind fun ps => if ps.all (fun p => !p.isEmpty) then some (.lst ((sortL ps).map tupI)) else none
  | _ => none
def keyI : V → Option Int
  | .int i => some i
  | _ => none
def keyL (F : Hp) : V → List Int
  | .ref t => match F t with
    | some (.tup vs) => vs.filterMap keyI
    | _ => []
  | _ => []
theorem keyI_map : ∀ p : List Int, (p.map V.int).filterMap keyI = p
  | [] => rfl
  | i :: p => by rw [List.map_cons, List.filterMap_cons, keyI_map p]; rfl
section
variable {K : PySem.W.Frag}
theorem keyL_rep {F : Hp} {v : V} {p : List Int} (r : Rep K F v (tupI p)) : keyL F v = p ∧ ∃ t, v = .ref t ∧ F t = some (.tup (p.map V.int)) := by
  obtain ⟨a, vs, rfl, h, r⟩ := Rep.tupI r
  have e := ints_rep (intsOf_map p) r
  subst e
  refine ⟨?_, a, rfl, h⟩
  unfold keyL
  simp only [h]
  exact keyI_map p
theorem rep_tups {F : Hp} : ∀ {vs : List V} {ps : List (List Int)}, RepL K F vs (ps.map tupI) → vs.map (keyL F) = ps ∧ ∀ v ∈ vs, ∃ t, v = .ref t ∧ F t = some (.tup ((keyL F v).map V.int))
  | _, [], r => by cases r; exact ⟨rfl, fun _ h => absurd h (List.not_mem_nil)⟩
  | _, p :: ps, r => by
    cases r with
    | cons h r =>
      obtain ⟨k1, k2⟩ := keyL_rep h
      obtain ⟨i1, i2⟩ := rep_tups r
      refine ⟨by rw [List.map_cons, k1, i1], fun v hv => ?_⟩
      rcases List.mem_cons.mp hv with rfl | hv
      · rw [k1]; exact k2
      · exact i2 v hv
theorem rep_tups_of {F : Hp} : ∀ {vs : List V}, (∀ v ∈ vs, ∃ t, v = .ref t ∧ F t = some (.tup ((keyL F v).map V.int))) → RepL K F vs ((vs.map (keyL F)).map tupI)
  | [], _ => .nil
  | v :: vs, h => by
    obtain ⟨t, e, ht⟩ := h v List.mem_cons_self
    refine .cons ?_ (rep_tups_of fun w hw => h w (List.mem_cons_of_mem _ hw))
    generalize keyL F v = p at ht ⊢
    subst e
    exact .ob ht (.tup (rep_ints p))
theorem d_sortT : Fn1N K dSortT (rSortedTI K) := by
  intro F H vs ds d Q s r e q
  unfold dSortT at e
  split at e
  · obtain ⟨ps, e1, e⟩ := Option.bind_eq_some_iff.mp e
    obtain ⟨c, rfl⟩ := if_some e
    obtain ⟨v, rfl, rr⟩ := bl1 r
    obtain ⟨a, ws, rfl, h1, r1⟩ := rr.lst s
    rw [tupsOf_some e1] at r1
    obtain ⟨k1, k2⟩ := rep_tups r1
    refine ⟨a, ws, keyL F, rfl, .of h1, fun x hx => ?_, fun ys p hs hb np => ?_⟩
    · obtain ⟨t, e, ht⟩ := k2 x hx
      refine ⟨t, e, s _ _ ht, fun z => ?_⟩
      have hm : keyL F x ∈ ps := by rw [← k1]; exact List.mem_map.mpr ⟨x, hx, rfl⟩
      have := List.all_eq_true.mp c _ hm
      rw [z] at this; cases this
    · have e : ys.map (keyL F) = sortL ps := sortL_eq (by rw [← k1]; exact hb.map _) (List.pairwise_map.mpr hs)
      have rp := rep_tups_of (K := K) (F := F) (vs := ys) fun v hv => k2 v (hb.mem_iff.mp hv)
      rw [e] at rp
      exact q p _ _ F (Ext.own s np) np (s.free np) upd_same rfl (.lst rp)
  · cases e
/-- ints, pairs of ints, tuples of ints -/
def dSortA (ds : List D) : Option D := match dSorted ds with
  | some d => some d
  | none => dSortT ds
def rSortA (K : PySem.W.Frag) : List V → Hp → VK → Prop := fun vs H Q => rSortedA K vs H Q ∨ rSortedTI K vs H Q
theorem op_sortA {X : Cx} : CallR X (.builtin "sorted") (rSortA X.K) := CallR.or op_sorted cr_sortedTI
theorem d_sortA : Fn1N K dSortA (rSortA K) := by
  intro F H vs ds d Q s r e q
  unfold dSortA at e
  split at e
  · rename_i d' hd
    cases e
    exact .inl (d_sorted F H vs ds _ Q s r hd q)
  · exact .inr (d_sortT F H vs ds d Q s r e q)
end
/-! ### in, not in, of any data -/
def rInDT (K : PySem.W.Frag) : R2 := fun x y H Q => ∃ d ds, Dp K H x d ∧ Dp K H y (.tuple ds) ∧ SeqAt.shaped d = true ∧ SeqAt.shaped (.tuple ds) = true ∧ Q (.bl (ds.any fun z => PyData.eqv z d)) H
def rNotInDT (K : PySem.W.Frag) : R2 := fun x y H Q => ∃ d ds, Dp K H x d ∧ Dp K H y (.tuple ds) ∧ SeqAt.shaped d = true ∧ SeqAt.shaped (.tuple ds) = true ∧ Q (.bl (!ds.any fun z => PyData.eqv z d)) H
section
variable {X : Cx}
theorem op_inDT (hu : X.A.units + 65 < cLine) : OpR X (compareOp .In) (rInDT X.K) := by
  intro pins s σ H x y v u Q I rx ry h
  obtain ⟨d, ds, hd, he, sd, se, q⟩ := h
  obtain ⟨as, r1⟩ := Dp.reads I d x v hd rx
  obtain ⟨bs, r2⟩ := Dp.reads I (.tuple ds) y u he ry
  exact SeqAt.in_tuple_reads r2 r1 (SeqAt.canLay_of_shaped se) (SeqAt.canLay_of_shaped sd) (room_in_shaped sd hu) ⟨.bl _, H, I, rfl, q⟩
theorem op_notInDT (hu : X.A.units + 65 < cLine) : OpR X (compareOp .NotIn) (rNotInDT X.K) := by
  intro pins s σ H x y v u Q I rx ry h
  obtain ⟨d, ds, hd, he, sd, se, q⟩ := h
  obtain ⟨as, r1⟩ := Dp.reads I d x v hd rx
  obtain ⟨bs, r2⟩ := Dp.reads I (.tuple ds) y u he ry
  exact SeqAt.notIn_tuple_reads r2 r1 (SeqAt.canLay_of_shaped se) (SeqAt.canLay_of_shaped sd) (room_in_shaped sd hu) ⟨.bl _, H, I, rfl, q⟩
end
def dInA (x c : D) : Option D := (itemsD c).bind fun ds => if D.shp 7 x && ds.all (D.shp 7) then some (.bl (ds.any fun d => D.eqb d x)) else none
def dNotInA (x c : D) : Option D := (itemsD c).bind fun ds => if D.shp 7 x && ds.all (D.shp 7) then some (.bl (!ds.any fun d => D.eqb d x)) else none
theorem any_py {x : D} (hx : D.shp 7 x = true) : ∀ {ds : List D}, ds.all (D.shp 7) = true → ((D.pyL ds).any fun z => PyData.eqv z x.py) = ds.any fun d => D.eqb d x
  | [], _ => by simp only [D.pyL, List.any_nil]
  | d :: ds, h => by
    rw [List.all_cons] at h
    obtain ⟨h1, h2⟩ := Bool.and_eq_true_iff.mp h
    simp only [D.pyL, List.any_cons]
    rw [any_py hx h2, ← eqb_py 7 7 d x h1 hx]
section
variable {K : PySem.W.Frag}
def rInA (K : PySem.W.Frag) : R2 := fun x y H Q => rInD K x y H Q ∨ rInDT K x y H Q
def rNotInA (K : PySem.W.Frag) : R2 := fun x y H Q => rNotInD K x y H Q ∨ rNotInDT K x y H Q
theorem d_inA : Op2 K dInA (rInA K) := by
  intro F H x y dx dy d Q s rx ry e q
  obtain ⟨ds, e1, e⟩ := Option.bind_eq_some_iff.mp e
  obtain ⟨c, rfl⟩ := ite_some e
  obtain ⟨c1, c2⟩ := Bool.and_eq_true_iff.mp c
  have s1 : SeqAt.shaped dx.py = true := shp_shaped (n := 7) (by decide) c1
  cases dy with
  | lst ys =>
    obtain rfl : ys = ds := Option.some.inj e1
    refine .inl ⟨dx.py, D.pyL ys, dp_B s rx c1, dp_B (n := 8) (d := .lst ys) s ry c2, s1, shp_shaped (n := 8) (d := .lst ys) (by decide) c2, ?_⟩
    rw [any_py c1 c2]; exact q _ H F (.refl s) (.bl _)
  | tup ys =>
    obtain rfl : ys = ds := Option.some.inj e1
    refine .inr ⟨dx.py, D.pyL ys, dp_B s rx c1, dp_B (n := 8) (d := .tup ys) s ry c2, s1, shp_shaped (n := 8) (d := .tup ys) (by decide) c2, ?_⟩
    rw [any_py c1 c2]; exact q _ H F (.refl s) (.bl _)
  | _ => cases e1
theorem d_notInA : Op2 K dNotInA (rNotInA K) := by
  intro F H x y dx dy d Q s rx ry e q
  obtain ⟨ds, e1, e⟩ := Option.bind_eq_some_iff.mp e
  obtain ⟨c, rfl⟩ := ite_some e
  obtain ⟨c1, c2⟩ := Bool.and_eq_true_iff.mp c
  have s1 : SeqAt.shaped dx.py = true := shp_shaped (n := 7) (by decide) c1
  cases dy with
  | lst ys =>
    obtain rfl : ys = ds := Option.some.inj e1
    refine .inl ⟨dx.py, D.pyL ys, dp_B s rx c1, dp_B (n := 8) (d := .lst ys) s ry c2, s1, shp_shaped (n := 8) (d := .lst ys) (by decide) c2, ?_⟩
    rw [any_py c1 c2]; exact q _ H F (.refl s) (.bl _)
  | tup ys =>
    obtain rfl : ys = ds := Option.some.inj e1
    refine .inr ⟨dx.py, D.pyL ys, dp_B s rx c1, dp_B (n := 8) (d := .tup ys) s ry c2, s1, shp_shaped (n := 8) (d := .tup ys) (by decide) c2, ?_⟩
    rw [any_py c1 c2]; exact q _ H F (.refl s) (.bl _)
  | _ => cases e1
end
theorem units5 {k : Nat} {A : Around} (r : Room k A) : A.units + 65 < cLine := by have := r.un; omega
theorem op_inA {X : Cx} (hu : X.A.units + 65 < cLine) : OpR X (compareOp .In) (rInA X.K) := (op_inD hu).or (op_inDT hu)
theorem op_notInA {X : Cx} (hu : X.A.units + 65 < cLine) : OpR X (compareOp .NotIn) (rNotInA X.K) := (op_notInD hu).or (op_notInDT hu)
/-! ### sum of a tuple of ints; any of a sequence of ints -/
section
variable {prog : Program} {w : World} {A : Around} {E : Value → Shared → Prop} {s : Shared}
theorem iter_tup {a : Addr} {items : Array Value} {Q : Value → Shared → Prop} (pt : s.heap.IsTuple a items) (h : ∀ s2 : Shared, s2 = { s with heap := s.heap.push { cls := .type "tuple_iterator", data := .fields #[.ref a, .int 0 0] } } →
    (s2.heap.IsTupleIter s.heap.objs.size a 0 ∧ s2.heap.IsTuple a items) → a ≠ s.heap.objs.size → Q (.ref s.heap.objs.size) s2) : wpAny (model prog w) A (pyIter (.ref a)) Q E s := by
  have lt : a < s.heap.objs.size := by obtain ⟨o, e, _⟩ := pt; exact Heap.lt_size e
  exact wpAny_pyIter_tuple pt (h _ rfl ⟨⟨_, Heap.get?_push_size _ rfl, rfl, rfl⟩, pt.at fun o e => Heap.get?_push_of_some _ e⟩ (Nat.ne_of_lt lt))
end
theorem preSum_all : ∀ (ns : List Int) (k : Nat), k ≤ ns.length → preSum (fun i => ns.getD i 0) k = (ns.take k).sum
  | ns, 0, _ => by rw [List.take_zero]; rfl
  | ns, k + 1, h => by
    show preSum (fun i => ns.getD i 0) k + ns.getD k 0 = _
    rw [preSum_all ns k (by omega), List.take_add_one, List.sum_append, List.getElem?_eq_getElem (by omega), List.getD_eq_getElem?_getD, List.getElem?_eq_getElem (by omega)]
    simp
def rSumT (K : PySem.W.Frag) : List V → Hp → VK → Prop := fun vs H Q => ∃ (a : Addr) (ns : List Int), vs = [V.ref a] ∧ SqT K H a (ns.map V.int) ∧ Q (.int ns.sum) H
section
variable {X : Cx}
theorem cr_sumT (hc : X.calm = true) : CallR X (.builtin "sum") (rSumT X.K) := by
  intro pins s σ H vs us Q I r h
  obtain ⟨a, ns, rfl, hs, q⟩ := h
  obtain ⟨its, rv, pt, hz⟩ := I.tuple hs
  rw [Vals.ref1 r]
  have hi := ints_of_vals rv
  have hl : its.length = ns.length := by rw [← rv.length, List.length_map]
  refine call_sum_walkG (iter_tup pt fun s2 e2 st ne => ?_)
  subst e2
  refine ⟨_, _, _, _, _, _, fun i => ns.getD i 0, rfl, Walks.tuple (A := X.A.in1) (I.ok.hd hc) _ a ne its.toArray, st, fun b hb => ?_, fun i v hv => ?_, fun h' tk t' hk => ?_⟩
  · rw [show (s.heap.push { cls := .type "tuple_iterator", data := .fields #[.ref a, .int 0 0] }).objs.size = s.heap.objs.size + 1 by rw [Heap.size_push]]
    have lt : a < s.heap.objs.size := by obtain ⟨o, e, _⟩ := pt; exact Heap.lt_size e
    rcases List.mem_cons.mp hb with z | z
    · rw [z]; exact Nat.lt_succ_self _
    · rw [List.mem_singleton.mp z]; exact Nat.lt_succ_of_lt lt
  · exact IntsAre.int_at hi i v (by simpa using hv)
  · rw [show its.toArray.size = ns.length by rw [List.size_toArray, hl], preSum_all ns _ (Nat.le_refl _), List.take_length]
    refine ⟨.int ns.sum, H, I.kept fun b o eo => hk b o (fun m => ?_) (Heap.get?_push_of_some _ eo), ⟨t', rfl⟩, q⟩
    rcases List.mem_cons.mp m with e1 | m
    · exact absurd (e1 ▸ Heap.lt_size eo) (Nat.lt_irrefl _)
    · cases m
end
def dSumA : List D → Option D
  | [.lst xs] => (intsOf xs).map fun ns => .int ns.sum
  | [.tup xs] => (intsOf xs).map fun ns => .int ns.sum
  | _ => none
def rSumA (K : PySem.W.Frag) : List V → Hp → VK → Prop := fun vs H Q => rSum K vs H Q ∨ rSumT K vs H Q
theorem cr_sumA {X : Cx} (hc : X.calm = true) : CallR X (.builtin "sum") (rSumA X.K) := CallR.or (cr_sum hc) (cr_sumT hc)
theorem d_sumA {K : PySem.W.Frag} : Fn1 K dSumA (rSumA K) := by
  intro F H vs ds d Q s r e q
  unfold dSumA at e
  split at e
  · obtain ⟨ns, e1, rfl⟩ := Option.map_eq_some_iff.mp e
    obtain ⟨v, rfl, rr⟩ := bl1 r
    obtain ⟨a, ws, rfl, h1, r1⟩ := rr.lst s
    rw [ints_rep e1 r1] at h1
    exact .inl ⟨a, ns, rfl, .of h1, q _ H F (.refl s) (.int _)⟩
  · obtain ⟨ns, e1, rfl⟩ := Option.map_eq_some_iff.mp e
    obtain ⟨v, rfl, rr⟩ := bl1 r
    obtain ⟨a, ws, rfl, h1, r1⟩ := rr.tup
    rw [ints_rep e1 r1] at h1
    exact .inr ⟨a, ns, rfl, .of (s _ _ h1), q _ H F (.refl s) (.int _)⟩
  · cases e
/-! any of ints -/
theorem truth_ints {prog : Program} {w : World} {A : Around} {ns : List Int} {its : List Value} (hi : IntsAre its ns) : TruthOf prog w A (fun i v => its.toArray[i]? = some v) (fun i => ns.getD i 0 != 0) := fun i v s Q E hv hq => by
  obtain ⟨t, e⟩ := IntsAre.int_at hi i v (by simpa using hv)
  subst e
  exact PySem.P.truthy_int hq
theorem any_rangeI : ∀ ns : List Int, (List.range ns.length).any (fun i => ns.getD i 0 != 0) = ns.any (· != 0)
  | [] => rfl
  | b :: bs => by
    rw [List.length_cons, List.range_succ_eq_map, List.any_cons, List.any_map, List.any_cons, ← any_rangeI bs]
    all_goals rfl
def rAnyI (K : PySem.W.Frag) : List V → Hp → VK → Prop := fun vs H Q => ∃ (a : Addr) (ns : List Int), vs = [V.ref a] ∧ SqT K H a (ns.map V.int) ∧ Q (.bl (ns.any (· != 0))) H
theorem cr_anyI {X : Cx} (hc : X.calm = true) : CallR X (.builtin "any") (rAnyI X.K) := by
  intro pins s σ H vs us Q I r h
  obtain ⟨a, ns, rfl, hs, q⟩ := h
  obtain ⟨its, rv, pt, hz⟩ := I.tuple hs
  rw [Vals.ref1 r]
  have hi := ints_of_vals rv
  have hl : its.length = ns.length := by rw [← rv.length, List.length_map]
  refine call_any_walk (iter_tup pt fun s2 e2 st ne => ?_)
  subst e2
  refine ⟨_, _, _, _, _, _, _, rfl, Walks.tuple (A := X.A.in1) (I.ok.hd hc) _ a ne its.toArray, st, truth_ints hi, fun h' tk hk => ?_⟩
  refine ⟨.bl (ns.any (· != 0)), H, I.kept fun b o eo => hk b o (fun m => ?_) (Heap.get?_push_of_some _ eo), ?_, q⟩
  · rcases List.mem_cons.mp m with e1 | m
    · exact absurd (e1 ▸ Heap.lt_size eo) (Nat.lt_irrefl _)
    · cases m
  · show Value.bool _ = Value.bool _
    rw [← any_rangeI, List.size_toArray, hl]
def dAnyA : List D → Option D
  | [.lst xs] => (blsOf xs).map fun bs => .bl (bs.any id)
  | [.tup xs] => (intsOf xs).map fun ns => .bl (ns.any (· != 0))
  | _ => none
def rAnyA (K : PySem.W.Frag) : List V → Hp → VK → Prop := fun vs H Q => rAny K vs H Q ∨ rAnyI K vs H Q
theorem cr_anyA {X : Cx} (hc : X.calm = true) : CallR X (.builtin "any") (rAnyA X.K) := CallR.or (cr_any hc) (cr_anyI hc)
theorem d_anyA {K : PySem.W.Frag} : Fn1 K dAnyA (rAnyA K) := by
  intro F H vs ds d Q s r e q
  unfold dAnyA at e
  split at e
  · obtain ⟨ns, e1, rfl⟩ := Option.map_eq_some_iff.mp e
    obtain ⟨v, rfl, rr⟩ := bl1 r
    obtain ⟨a, ws, rfl, h1, r1⟩ := rr.lst s
    rw [bls_rep e1 r1] at h1
    exact .inl ⟨a, ns, rfl, .of h1, q _ H F (.refl s) (.bl _)⟩
  · obtain ⟨ns, e1, rfl⟩ := Option.map_eq_some_iff.mp e
    obtain ⟨v, rfl, rr⟩ := bl1 r
    obtain ⟨a, ws, rfl, h1, r1⟩ := rr.tup
    rw [ints_rep e1 r1] at h1
    exact .inr ⟨a, ns, rfl, .of (s _ _ h1), q _ H F (.refl s) (.bl _)⟩
  · cases e
end SK

set_option Elab.async false
set_option linter.all false
set_option maxRecDepth 100000
set_option autoImplicit false
namespace SK
open PySem PySem.Spec PyProof.Rows L2
/-! defs that several laws share -/
def b_divisor : MS :=
  (sSq (sPar 0 1 (xV (mCall dAbs (mCons (mVarB 0) mNil))) (xV (mCall dAbs (mCons (mVarB 1) mNil)))) (sSq (mWh (mTB (mBin dGt (mVarB 1) (mC (.int 0)))) (sPar 0 1 (xV (mVar 1)) (xV (mBin dMod (mVarB 0) (mVarB 1)))) 2000) (sRt (mVar 0))))
def m_divisor : List D → Option D := runFn 2 2 b_divisor
def b_turned_number : MS :=
  (sSq (sFor (mRng1 (mVarB 1)) (gN 2) (sIf (mTB (mBin dEq (mBin dMod (mBin dMulI (mVarB 0) (mVarB 2)) (mVarB 1)) (mC (.int 1)))) (sRt (mVar 2)) sNx)) (sRt (mC .non)))
def m_turned_number : List D → Option D := runFn 2 3 b_turned_number
def b_power_in : MS :=
  (sSq (sPar 3 4 (xV (mBin dMod (mC (.int 1)) (mVarB 2))) (xV (mBin dMod (mVarB 0) (mVarB 2)))) (sSq (mWh (mTB (mBin dGt (mVarB 1) (mC (.int 0)))) (sSq (sIf (mTB (mBin dEq (mBin dMod (mVarB 1) (mC (.int 2))) (mC (.int 1)))) (sSet 3 (xV (mBin dMod (mBin dMulI (mVarB 3) (mVarB 4)) (mVarB 2)))) sNx) (sPar 4 1 (xV (mBin dMod (mBin dMulI (mVarB 4) (mVarB 4)) (mVarB 2))) (xV (mBin dDiv (mVarB 1) (mC (.int 2)))))) 2000) (sRt (mVar 3))))
def m_power_in : List D → Option D := runFn 3 5 b_power_in
def b_round_of : MS :=
  (sSq (sSet 2 (xV (mBin dMod (mC (.int 1)) (mVarB 1)))) (sSq (sFor (mRng2 (mC (.int 1)) (mBin dAdd (mVarB 1) (mC (.int 1)))) (gN 3) (sSq (sSet 2 (xV (mBin dMod (mBin dMulI (mVarB 2) (mVarB 0)) (mVarB 1)))) (sIf (mTB (mBin dEq (mVarB 2) (mBin dMod (mC (.int 1)) (mVarB 1)))) (sRt (mVar 3)) sNx))) (sRt (mC .non))))
def m_round_of : List D → Option D := runFn 2 4 b_round_of
def b_square_sign : MS :=
  (sSq (sPar 0 2 (xV (mBin dMod (mVarB 0) (mVarB 1))) (xV (mC (.int 1)))) (sSq (mWh (mTB (mBin dNe (mVarB 0) (mC (.int 0)))) (sSq (mWh (mTB (mBin dEq (mBin dMod (mVarB 0) (mC (.int 2))) (mC (.int 0)))) (sSq (sAug 0 dDiv (mC (.int 2))) (sIf (mTB (mBin dIn (mBin dMod (mVarB 1) (mC (.int 8))) (mTup (mCons (mC (.int 3)) (mCons (mC (.int 5)) mNil))))) (sSet 2 (xV (mUn dNeg (mVarB 2)))) sNx)) 2000) (sSq (sPar 0 1 (xV (mVar 1)) (xV (mVar 0))) (sSq (sIf (mtAnd (mTB (mBin dEq (mBin dMod (mVarB 0) (mC (.int 4))) (mC (.int 3)))) (mTB (mBin dEq (mBin dMod (mVarB 1) (mC (.int 4))) (mC (.int 3))))) (sSet 2 (xV (mUn dNeg (mVarB 2)))) sNx) (sAug 0 dMod (mVarB 1))))) 2000) (sRt (mIf (mTB (mBin dEq (mVarB 1) (mC (.int 1)))) (mVar 2) (mC (.int 0))))))
def m_square_sign : List D → Option D := runFn 2 3 b_square_sign
def b_parts_of : MS :=
  (sSq (sPar 1 2 (xO (mLst mNil)) (xV (mC (.int 2)))) (sSq (mWh (mTB (mBin dGt (mVarB 0) (mC (.int 1)))) (sSq (sSet 3 (xV (mC (.int 0)))) (sSq (mWh (mTB (mBin dEq (mBin dMod (mVarB 0) (mVarB 2)) (mC (.int 0)))) (sPar 0 3 (xV (mBin dDiv (mVarB 0) (mVarB 2))) (xV (mBin dAdd (mVarB 3) (mC (.int 1))))) 2000) (sSq (sIf (mTru (mVarB 3)) (sApp 1 (mTup (mCons (mVar 2) (mCons (mVar 3) mNil)))) sNx) (sSet 2 (xV (mIf (mtOr (mTB (mBin dLe (mBin dMulI (mVarB 2) (mVarB 2)) (mVarB 0))) (mTB (mBin dEq (mVarB 0) (mC (.int 1))))) (mBin dAdd (mVarB 2) (mC (.int 1))) (mVar 0))))))) 2000) (sRt (mCall dTuple (mCons (mVarB 1) mNil)))))
def m_parts_of : List D → Option D := runFn 1 4 b_parts_of
def b__law_common : MS :=
  (sSq (sPar 0 1 (xV (mCall dAbs (mCons (mVarB 0) mNil))) (xV (mCall dAbs (mCons (mVarB 1) mNil)))) (sSq (sFor (mRng1 (mC (.int 200))) (gN 2) (sSq (sIf (mTB (mBin dEq (mVarB 1) (mC (.int 0)))) sBk sNx) (sPar 0 1 (xV (mVar 1)) (xV (mBin dMod (mCall dInt1 (mCons (mVarB 0) mNil)) (mVarB 1)))))) (sRt (mVar 0))))
def m__law_common : List D → Option D := runFn 2 3 b__law_common
end SK

set_option Elab.async false
set_option linter.all false
set_option maxRecDepth 100000
set_option maxHeartbeats 4000000
set_option autoImplicit false
namespace SK
open PySem PySem.Spec PyProof.Rows L2
/-! ### mirrors of the defs that several laws share -/
theorem mod_nat {x n : Nat} (h : 0 < n) : dMod (.int x) (.int n) = some (.int ((x % n : Nat) : Int)) := by
  show (if decide ((0 : Int) < (n : Int)) then some (D.int ((x : Int) % (n : Int))) else none) = _
  rw [decide_eq_true (by omega)]; rfl
theorem abs_nat (x : Nat) : dAbs [.int x] = some (.int x) := by
  show some (D.int (if (x : Int) < 0 then -(x : Int) else x)) = _
  rw [if_neg (by omega)]
/-! divisor -/
def n_divisor : List D → Option D
  | [.int a, .int b] => if decide (0 ≤ a) && (decide (0 ≤ b) && decide (b < 1000)) then some (.int (Nat.gcd a.toNat b.toNat)) else none
  | _ => none
def gT1 (s : Nat × Nat) : Bool := decide (0 < s.2)
def gF1 (s : Nat × Nat) : Nat × Nat := (s.2, s.1 % s.2)
theorem g_end (N : Nat) (s : Nat × Nat) (h : s.2 ≤ N) : gT1 (wh gT1 gF1 N s) = false :=
  wh_end (P := fun _ => True) Prod.snd (fun a _ h => ⟨trivial, Nat.mod_lt _ (of_decide_eq_true h)⟩) N s trivial h
theorem g_gcd : ∀ (N : Nat) (s : Nat × Nat), s.2 ≤ N → (wh gT1 gF1 N s).1 = Nat.gcd s.1 s.2
  | 0, (x, y), h => by
    have : y = 0 := Nat.le_zero.mp h
    subst this; exact (Nat.gcd_zero_right x).symm
  | N + 1, (x, y), h => by
    show (if gT1 (x, y) then wh gT1 gF1 N (gF1 (x, y)) else (x, y)).1 = _
    by_cases hy : 0 < y
    · rw [if_pos (show gT1 (x, y) = true from decide_eq_true hy), g_gcd N (gF1 (x, y)) (by have := Nat.mod_lt x hy; show x % y ≤ N; have h : y ≤ N + 1 := h; omega)]
      show Nat.gcd y (x % y) = Nat.gcd x y
      rw [Nat.gcd_comm y, ← Nat.gcd_rec, Nat.gcd_comm]
    · have : y = 0 := by omega
      subst this
      rw [if_neg (show ¬ gT1 (x, 0) = true from fun h => absurd (of_decide_eq_true h) (Nat.lt_irrefl 0))]; exact (Nat.gcd_zero_right x).symm
theorem le_divisor : LeF n_divisor m_divisor := by
  intro x r h
  unfold n_divisor at h
  split at h
  · rename_i a b
    obtain ⟨c, rfl⟩ := if_someP h
    simp only [Bool.and_eq_true, decide_eq_true_eq] at c
    obtain ⟨h0, h1, h2⟩ := c
    obtain ⟨a, rfl⟩ := Int.eq_ofNat_of_zero_le h0
    obtain ⟨b, rfl⟩ := Int.eq_ofNat_of_zero_le h1
    have hb : b ≤ 1999 := by omega
    obtain ⟨Γ', e, e2, _⟩ := wh_run (c := (mTB (mBin dGt (mVarB 1) (mC (.int 0))))) (b := (sPar 0 1 (xV (mVar 1)) (xV (mBin dMod (mVarB 0) (mVarB 1))))) gT1 gF1 (fun s Γ => Γ = [.val (.int s.1), .val (.int s.2)]) (fun _ => True)
      (fun s Γ _ e => by
        subst e
        show some (decide ((0 : Int) < (s.2 : Int))) = some (decide (0 < s.2))
        by_cases h : 0 < s.2
        · rw [decide_eq_true h, decide_eq_true (by omega)]
        · rw [decide_eq_false h, decide_eq_false (by omega)])
      (fun s Γ _ e h => by
        subst e
        have h := of_decide_eq_true h
        refine ⟨trivial, _, ?_, rfl⟩
        show (some (Slot.val (.int s.2))).bind (fun z => ((dMod (.int s.1) (.int s.2)).map Slot.val).map fun t => (Fl.nx, _)) = _
        rw [mod_nat h]; rfl) 1999 (a, b) _ trivial rfl (g_end _ _ hb)
    subst e2
    rw [g_gcd _ _ hb] at e
    refine run_q rfl ?_
    unfold b_divisor
    refine q_par (d := .int a) (e := .int b) (ev1 rfl (abs_nat a)) (ev1 rfl (abs_nat b)) (q_nx e (q_ret rfl))
  · cases h
/-! _law_common -/
def n__law_common : List D → Option D
  | [.int a, .int b] => if decide (0 ≤ a) && (decide (0 ≤ b) && decide (b < 200)) then some (.int (Nat.gcd a.toNat b.toNat)) else none
  | _ => none
theorem common_run : ∀ (xs : List D) (x y : Nat) (s : Slot), y ≤ xs.length → ∃ Γ', mFor (gN 2) (sSq (sIf (mTB (mBin dEq (mVarB 1) (mC (.int 0)))) sBk sNx) (sPar 0 1 (xV (mVar 1)) (xV (mBin dMod (mCall dInt1 (mCons (mVarB 0) mNil)) (mVarB 1))))) xs [.val (.int x), .val (.int y), s] = some (.nx, Γ') ∧ ∃ t, Γ' = [.val (.int (Nat.gcd x y)), .val (.int 0), t]
  | [], x, y, s, h => by
    have : y = 0 := Nat.le_zero.mp h
    subst this
    exact ⟨_, rfl, s, by rw [Nat.gcd_zero_right]; rfl⟩
  | d :: xs, x, y, s, h => by
    by_cases hy : y = 0
    · subst hy
      exact ⟨_, mFor_bk (Γ1 := [.val (.int x), .val (.int 0), .val d]) rfl, _, by rw [Nat.gcd_zero_right]⟩
    · obtain ⟨Γ', e, t, h1⟩ := common_run xs y (x % y) (.val d) (by have := Nat.mod_lt x (show 0 < y by omega); have h : y ≤ xs.length + 1 := h; omega)
      refine ⟨Γ', (mFor_nx ?_).trans e, t, ?_⟩
      · refine (sSq_nx (Γ := [.val (.int x), .val (.int y), .val d]) (Γ1 := [.val (.int x), .val (.int y), .val d]) ((sIf_f ?_).trans rfl)).trans ?_
        · show some ((y : Int) == 0) = _
          rw [beq_eq_false_iff_ne.mpr (by omega)]
        · show (some (Slot.val (.int y))).bind (fun z => ((dMod (.int x) (.int y)).map Slot.val).map fun t => (Fl.nx, _)) = _
          rw [mod_nat (by omega)]; rfl
      · rw [h1, Nat.gcd_comm y, ← Nat.gcd_rec, Nat.gcd_comm]
theorem le__law_common : LeF n__law_common m__law_common := by
  intro x r h
  unfold n__law_common at h
  split at h
  · rename_i a b
    obtain ⟨c, rfl⟩ := if_someP h
    simp only [Bool.and_eq_true, decide_eq_true_eq] at c
    obtain ⟨h0, h1, h2⟩ := c
    obtain ⟨a, rfl⟩ := Int.eq_ofNat_of_zero_le h0
    obtain ⟨b, rfl⟩ := Int.eq_ofNat_of_zero_le h1
    obtain ⟨Γ', e, t, rfl⟩ := common_run ((List.range 200).map fun i : Nat => D.int i) a b .emp (by rw [List.length_map, List.length_range]; omega)
    refine run_q rfl ?_
    unfold b__law_common
    refine q_par (d := .int a) (e := .int b) (ev1 rfl (abs_nat a)) (ev1 rfl (abs_nat b)) (q_nx ((sFor_of ?_).trans e) (q_ret rfl))
    show (if okR 0 200 then some (rngD 0 200) else none) = _
    rw [show okR 0 200 = true by decide, if_pos rfl]
    exact congrArg some (rngD_eq 200)
  · cases h
/-! power_in -/
def n_power_in : List D → Option D
  | [.int a, .int e, .int n] => if decide (0 < n) && (decide (n < 4611686018427387904) && (decide (0 ≤ e) && decide (e < 4611686018427387904))) then some (.int (((a % n).toNat ^ e.toNat % n.toNat : Nat) : Int)) else none
  | _ => none
def pT (s : Nat × Nat × Nat) : Bool := decide (0 < s.2.2)
def pF (n : Nat) (s : Nat × Nat × Nat) : Nat × Nat × Nat := (if s.2.2 % 2 = 1 then s.1 * s.2.1 % n else s.1, s.2.1 * s.2.1 % n, s.2.2 / 2)
theorem p_end (n : Nat) : ∀ (N : Nat) (s : Nat × Nat × Nat), s.2.2 < 2 ^ N → pT (wh pT (pF n) N s) = false
  | 0, s, h => by
    have : s.2.2 = 0 := by omega
    show decide (0 < s.2.2) = false
    rw [this]; rfl
  | N + 1, s, h => by
    show pT (if pT s then wh pT (pF n) N (pF n s) else s) = false
    by_cases hs : pT s = true
    · rw [if_pos hs]
      exact p_end n N (pF n s) (by show s.2.2 / 2 < 2 ^ N; rw [Nat.pow_succ] at h; omega)
    · rw [if_neg hs]; exact Bool.eq_false_iff.mpr hs
theorem p_val (n : Nat) (hn : 0 < n) : ∀ (N : Nat) (s : Nat × Nat × Nat), s.2.2 < 2 ^ N → s.1 < n → (wh pT (pF n) N s).1 = s.1 * s.2.1 ^ s.2.2 % n
  | 0, (fo, ba, e), h, h1 => by
    have h : e < 2 ^ 0 := h
    have h1 : fo < n := h1
    have : e = 0 := by omega
    subst this
    show fo = fo * ba ^ 0 % n
    rw [Nat.pow_zero, Nat.mul_one, Nat.mod_eq_of_lt h1]
  | N + 1, (fo, ba, e), h, h1 => by
    have h : e < 2 ^ (N + 1) := h
    have h1 : fo < n := h1
    show (if pT (fo, ba, e) then wh pT (pF n) N (pF n (fo, ba, e)) else (fo, ba, e)).1 = fo * ba ^ e % n
    by_cases he : 0 < e
    · rw [if_pos (show pT (fo, ba, e) = true from decide_eq_true he)]
      have h2 : e / 2 < 2 ^ N := by rw [Nat.pow_succ] at h; omega
      have h3 : (pF n (fo, ba, e)).1 < n := by
        show (if e % 2 = 1 then fo * ba % n else fo) < n
        split
        · exact Nat.mod_lt _ hn
        · exact h1
      rw [p_val n hn N _ h2 h3]
      show (if e % 2 = 1 then fo * ba % n else fo) * (ba * ba % n) ^ (e / 2) % n = _
      have e0 : ba ^ e = ba ^ (e % 2) * (ba * ba) ^ (e / 2) := by
        rw [← Nat.pow_two, ← Nat.pow_mul, ← Nat.pow_add, Nat.mod_add_div]
      rw [e0]
      rcases Nat.mod_two_eq_zero_or_one e with e1 | e1
      · rw [if_neg (by omega), e1, Nat.pow_zero, Nat.one_mul, Nat.mul_mod, ← Nat.pow_mod, ← Nat.mul_mod]
      · rw [if_pos e1, e1, Nat.pow_one, ← Nat.mul_assoc, Nat.mul_mod, Nat.mod_mod, ← Nat.pow_mod, ← Nat.mul_mod]
    · have : e = 0 := by omega
      subst this
      rw [if_neg (show ¬ pT (fo, ba, 0) = true from fun h => absurd (of_decide_eq_true h) (Nat.lt_irrefl 0))]
      show fo = fo * ba ^ 0 % n
      rw [Nat.pow_zero, Nat.mul_one, Nat.mod_eq_of_lt h1]
theorem mulI_nat {x y : Nat} (h : x < 18446744073709551616) : dMulI (.int x) (.int y) = some (.int ((x * y : Nat) : Int)) := mulI_ok (okMul_l (by rw [Int.natAbs_natCast]; exact h))
theorem le_power_in : LeF n_power_in m_power_in := by
  intro x r h
  unfold n_power_in at h
  split at h
  · rename_i a e n
    obtain ⟨c, rfl⟩ := if_someP h
    simp only [Bool.and_eq_true, decide_eq_true_eq] at c
    obtain ⟨h0, h1, h2, h3⟩ := c
    obtain ⟨n, rfl⟩ := Int.eq_ofNat_of_zero_le (Int.le_of_lt h0)
    obtain ⟨e, rfl⟩ := Int.eq_ofNat_of_zero_le h2
    have hn : 0 < n := by omega
    have ha := Int.emod_nonneg a (show (n : Int) ≠ 0 by omega)
    obtain ⟨b, hb⟩ := Int.eq_ofNat_of_zero_le ha
    have he62 : (4611686018427387904 : Nat) = 2 ^ 62 := by decide
    have he : e < 2 ^ 1999 := Nat.lt_of_lt_of_le (show e < 2 ^ 62 by omega) (Nat.pow_le_pow_right (by decide) (by decide))
    have hb2 : b < n := by have := Int.emod_lt_of_pos a h0; omega
    obtain ⟨Γ', e1, e2, _⟩ := wh_run (c := (mTB (mBin dGt (mVarB 1) (mC (.int 0))))) (b := (sSq (sIf (mTB (mBin dEq (mBin dMod (mVarB 1) (mC (.int 2))) (mC (.int 1)))) (sSet 3 (xV (mBin dMod (mBin dMulI (mVarB 3) (mVarB 4)) (mVarB 2)))) sNx) (sPar 4 1 (xV (mBin dMod (mBin dMulI (mVarB 4) (mVarB 4)) (mVarB 2))) (xV (mBin dDiv (mVarB 1) (mC (.int 2))))))) pT (pF n) (fun s Γ => Γ = [.val (.int a), .val (.int s.2.2), .val (.int n), .val (.int s.1), .val (.int s.2.1)]) (fun s => s.1 < n ∧ s.2.1 < n)
      (fun s Γ _ e => by
        subst e
        show some (decide ((0 : Int) < (s.2.2 : Int))) = some (decide (0 < s.2.2))
        by_cases h : 0 < s.2.2
        · rw [decide_eq_true h, decide_eq_true (by omega)]
        · rw [decide_eq_false h, decide_eq_false (by omega)])
      (fun s Γ hp ee h => by
        subst ee
        obtain ⟨fo, ba, e⟩ := s
        obtain ⟨p1, p2⟩ := hp
        have p1 : fo < n := p1
        have p2 : ba < n := p2
        refine ⟨⟨?_, Nat.mod_lt _ hn⟩, [.val (.int a), .val (.int (e / 2 : Nat)), .val (.int n), .val (.int (if e % 2 = 1 then fo * ba % n else fo : Nat)), .val (.int (ba * ba % n : Nat))], ?_, rfl⟩
        · show (if e % 2 = 1 then fo * ba % n else fo) < n
          split
          · exact Nat.mod_lt _ hn
          · exact p1
        · have e2 : mTB (mBin dEq (mBin dMod (mVarB 1) (mC (.int 2))) (mC (.int 1))) [.val (.int a), .val (.int e), .val (.int n), .val (.int fo), .val (.int ba)] = some (decide (e % 2 = 1)) := by
            show some (((e : Int) % 2) == 1) = _
            by_cases h : e % 2 = 1
            · rw [decide_eq_true h, beq_iff_eq.mpr (by omega)]
            · rw [decide_eq_false h, beq_eq_false_iff_ne.mpr (by omega)]
          refine (sSq_nx (Γ1 := [.val (.int a), .val (.int e), .val (.int n), .val (.int (if e % 2 = 1 then fo * ba % n else fo : Nat)), .val (.int ba)]) ?_).trans ?_
          · by_cases h : e % 2 = 1
            · rw [sIf_t (by rw [e2, decide_eq_true h]), if_pos h]
              exact sSet_v ((mBin_of ((mBin_of rfl rfl).trans (mulI_nat (by omega))) rfl).trans (mod_nat hn))
            · rw [sIf_f (by rw [e2, decide_eq_false h]), if_neg h]; rfl
          · unfold sPar xV
            rw [(mBin_of (f := dMod) (x := .int (ba * ba : Nat)) (y := .int n) ((mBin_of rfl rfl).trans (mulI_nat (by omega))) rfl).trans (mod_nat hn)]
            rfl) 1999 (1 % n, b, e) _ ⟨Nat.mod_lt _ hn, hb2⟩ rfl (p_end n _ _ he)
    subst e2
    rw [p_val n hn _ _ he (Nat.mod_lt _ hn)] at e1
    refine run_q rfl ?_
    unfold b_power_in
    refine q_par (Γ := [.val (.int a), .val (.int e), .val (.int n), .emp, .emp]) (d := .int (1 % n : Nat)) (e := .int b) ((mBin_of (x := .int (1 : Nat)) rfl rfl).trans (mod_nat hn)) ((mod_of rfl rfl h0).trans (by rw [hb])) (q_nx e1 ((q_ret rfl).trans ?_))
    show some (Fl.rt (.int ((1 % n * b ^ e % n : Nat) : Int))) = some (Fl.rt (.int (((a % (n : Int)).toNat ^ e % n : Nat) : Int)))
    rw [hb]
    show some (Fl.rt (.int ((1 % n * b ^ e % n : Nat) : Int))) = some (Fl.rt (.int ((b ^ e % n : Nat) : Int)))
    rw [Nat.mul_mod, Nat.mod_mod, ← Nat.mul_mod, Nat.one_mul]
  · cases h

/-! round_of -/
def roundN (a n : Nat) : D := match findR (fun p (_ : Nat) => p * a % n) (fun p i => if p * a % n = 1 % n then some (D.int (1 + (i : Int))) else none) (List.range n) (1 % n) with
  | .inl d => d
  | .inr _ => .non
def n_round_of : List D → Option D
  | [.int a, .int n] => if decide (0 ≤ a) && (decide (0 < n) && decide (n ≤ 100000)) then some (roundN a.toNat n.toNat) else none
  | _ => none
theorem rng2_one {m : ME} {Γ : En} {n : Nat} (h : m Γ = some (.int n)) (hn : n ≤ 100000) : mRng2 (mC (.int 1)) (mBin dAdd m (mC (.int 1))) Γ = some ((List.range n).map fun i : Nat => D.int (1 + (i : Int))) := by
  have ok : okR 1 ((n : Int) + 1) = true := by
    unfold okR
    simp only [Bool.and_eq_true, decide_eq_true_eq]
    omega
  rw [rng2_of (i := 1) (j := (n : Int) + 1) rfl ((mBin_of h rfl).trans rfl) ok]
  unfold rngD
  rw [show ((n : Int) + 1 - 1).toNat = n by omega]
theorem eq_int {i j : Nat} : D.eqb (.int i) (.int j) = decide (i = j) := by
  show ((i : Int) == (j : Int)) = _
  by_cases h : i = j
  · rw [decide_eq_true h, beq_iff_eq.mpr (by omega)]
  · rw [decide_eq_false h, beq_eq_false_iff_ne.mpr (by omega)]
theorem le_round_of : LeF n_round_of m_round_of := by
  intro x r h
  unfold n_round_of at h
  split at h
  · rename_i a n
    obtain ⟨c, rfl⟩ := if_someP h
    simp only [Bool.and_eq_true, decide_eq_true_eq] at c
    obtain ⟨h0, h1, h2⟩ := c
    obtain ⟨a, rfl⟩ := Int.eq_ofNat_of_zero_le h0
    obtain ⟨n, rfl⟩ := Int.eq_ofNat_of_zero_le (Int.le_of_lt h1)
    have hn : 0 < n := by omega
    have F := for_find (g := gN 3) (b := (sSq (sSet 2 (xV (mBin dMod (mBin dMulI (mVarB 2) (mVarB 0)) (mVarB 1)))) (sIf (mTB (mBin dEq (mVarB 2) (mBin dMod (mC (.int 1)) (mVarB 1)))) (sRt (mVar 3)) sNx))) (fun i : Nat => D.int (1 + (i : Int))) (fun p (_ : Nat) => p * a % n) (fun p i => if p * a % n = 1 % n then some (D.int (1 + (i : Int))) else none) (fun p Γ => p < n ∧ ∃ s3, Γ = [.val (.int a), .val (.int n), .val (.int p), s3]) (List.range n)
      (fun p i hi Γ ⟨hp, s3, e⟩ => by
        subst e
        have e0 : (sSet 2 (xV (mBin dMod (mBin dMulI (mVarB 2) (mVarB 0)) (mVarB 1)))) [.val (.int a), .val (.int n), .val (.int p), .val (.int (1 + (i : Int)))] = some (.nx, [.val (.int a), .val (.int n), .val (.int (p * a % n : Nat)), .val (.int (1 + (i : Int)))]) :=
          sSet_v ((mBin_of ((mBin_of rfl rfl).trans (mulI_nat (by omega))) rfl).trans (mod_nat hn))
        have e1 : (mTB (mBin dEq (mVarB 2) (mBin dMod (mC (.int 1)) (mVarB 1)))) [.val (.int a), .val (.int n), .val (.int (p * a % n : Nat)), .val (.int (1 + (i : Int)))] = some (decide (p * a % n = 1 % n)) := by
          refine mTB_of ((mBin_of (x := .int (p * a % n : Nat)) (y := .int (1 % n : Nat)) rfl ((mBin_of (x := .int (1 : Nat)) rfl rfl).trans (mod_nat hn))).trans ?_)
          show some (D.bl (D.eqb (.int (p * a % n : Nat)) (.int (1 % n : Nat)))) = _
          rw [eq_int]
        constructor
        · intro d hd
          obtain ⟨hc, rfl⟩ := if_someP hd
          exact ⟨_, (sSq_nx (Γ := [.val (.int a), .val (.int n), .val (.int p), .val (.int (1 + (i : Int)))]) e0).trans ((sIf_t (by rw [e1, decide_eq_true hc])).trans (sRt_of rfl))⟩
        · intro hd
          have hc : ¬ p * a % n = 1 % n := fun hc => by rw [if_pos hc] at hd; cases hd
          exact ⟨_, (sSq_nx (Γ := [.val (.int a), .val (.int n), .val (.int p), .val (.int (1 + (i : Int)))]) e0).trans ((sIf_f (by rw [e1, decide_eq_false hc])).trans rfl), Nat.mod_lt _ hn, _, rfl⟩) (1 % n) [.val (.int a), .val (.int n), .val (.int (1 % n : Nat)), .emp] ⟨Nat.mod_lt _ hn, _, rfl⟩
    have st : (xV (mBin dMod (mC (.int 1)) (mVarB 1))) [.val (.int a), .val (.int n), .emp, .emp] = some (.val (.int (1 % n : Nat))) := by
      unfold xV
      rw [(mBin_of (x := .int (1 : Nat)) (y := .int n) rfl rfl).trans (mod_nat hn)]; rfl
    have ri : (mRng2 (mC (.int 1)) (mBin dAdd (mVarB 1) (mC (.int 1)))) [.val (.int a), .val (.int n), .val (.int (1 % n : Nat)), .emp] = some ((List.range n).map fun i : Nat => D.int (1 + (i : Int))) := rng2_one rfl (by omega)
    show m_round_of [.int a, .int n] = some (roundN a n)
    unfold roundN
    have s1 : (sSet 2 (xV (mBin dMod (mC (.int 1)) (mVarB 1)))) [.val (.int a), .val (.int n), .emp, .emp] = some (.nx, [.val (.int a), .val (.int n), .val (.int (1 % n : Nat)), .emp]) := by
      unfold sSet; rw [st]; rfl
    split
    · rename_i d hd
      obtain ⟨Γ', e⟩ := F.1 d hd
      refine run_rt (Γ1 := Γ') rfl ?_
      unfold b_round_of
      exact (sSq_nx s1).trans (sSq_rt ((sFor_of ri).trans e))
    · rename_i a' hd
      obtain ⟨Γ', e, _, s3, rfl⟩ := F.2 a' hd
      refine run_rt (Γ1 := [.val (.int a), .val (.int n), .val (.int a'), s3]) rfl ?_
      unfold b_round_of
      exact (sSq_nx s1).trans ((sSq_nx ((sFor_of ri).trans e)).trans rfl)
  · cases h
/-! turned_number -/
def turnN (a n : Nat) : D := match findR (fun (u : Unit) (_ : Nat) => u) (fun _ i => if a * i % n = 1 then some (D.int (i : Int)) else none) (List.range n) () with
  | .inl d => d
  | .inr _ => .non
def n_turned_number : List D → Option D
  | [.int a, .int n] => if decide (0 ≤ a) && (decide (0 < n) && decide (n ≤ 100000)) then some (turnN a.toNat n.toNat) else none
  | _ => none
theorem le_turned_number : LeF n_turned_number m_turned_number := by
  intro x r h
  unfold n_turned_number at h
  split at h
  · rename_i a n
    obtain ⟨c, rfl⟩ := if_someP h
    simp only [Bool.and_eq_true, decide_eq_true_eq] at c
    obtain ⟨h0, h1, h2⟩ := c
    obtain ⟨a, rfl⟩ := Int.eq_ofNat_of_zero_le h0
    obtain ⟨n, rfl⟩ := Int.eq_ofNat_of_zero_le (Int.le_of_lt h1)
    have hn : 0 < n := by omega
    have F := for_find (g := gN 2) (b := (sIf (mTB (mBin dEq (mBin dMod (mBin dMulI (mVarB 0) (mVarB 2)) (mVarB 1)) (mC (.int 1)))) (sRt (mVar 2)) sNx)) (fun i : Nat => D.int (i : Int)) (fun (u : Unit) (_ : Nat) => u) (fun _ i => if a * i % n = 1 then some (D.int (i : Int)) else none) (fun p Γ => ∃ s2, Γ = [.val (.int a), .val (.int n), s2]) (List.range n)
      (fun p i hi Γ ⟨s2, e⟩ => by
        subst e
        have hi := List.mem_range.mp hi
        have e1 : (mTB (mBin dEq (mBin dMod (mBin dMulI (mVarB 0) (mVarB 2)) (mVarB 1)) (mC (.int 1)))) [.val (.int a), .val (.int n), .val (.int i)] = some (decide (a * i % n = 1)) := by
          refine mTB_of ((mBin_of (x := .int (a * i % n : Nat)) (y := .int (1 : Nat)) ((mBin_of (x := .int (a * i : Nat)) ((mBin_of rfl rfl).trans (mulI_ok (okMul_r (by rw [Int.natAbs_natCast]; omega)))) rfl).trans (mod_nat hn)) rfl).trans ?_)
          show some (D.bl (D.eqb (.int (a * i % n : Nat)) (.int (1 : Nat)))) = _
          rw [eq_int]
        constructor
        · intro d hd
          obtain ⟨hc, rfl⟩ := if_someP hd
          exact ⟨_, (sIf_t (Γ := [.val (.int a), .val (.int n), .val (.int i)]) (by rw [e1, decide_eq_true hc])).trans (sRt_of rfl)⟩
        · intro hd
          have hc : ¬ a * i % n = 1 := fun hc => by rw [if_pos hc] at hd; cases hd
          exact ⟨_, (sIf_f (Γ := [.val (.int a), .val (.int n), .val (.int i)]) (by rw [e1, decide_eq_false hc])).trans rfl, _, rfl⟩) () [.val (.int a), .val (.int n), .emp] ⟨_, rfl⟩
    have ri : (mRng1 (mVarB 1)) [.val (.int a), .val (.int n), .emp] = some ((List.range n).map fun i : Nat => D.int (i : Int)) := by
      show (if okR 0 (n : Int) then some (rngD 0 n) else none) = _
      rw [okR_nat (by omega), if_pos rfl, rngD_eq]
    show m_turned_number [.int a, .int n] = some (turnN a n)
    unfold turnN
    split
    · rename_i d hd
      obtain ⟨Γ', e⟩ := F.1 d hd
      refine run_rt (Γ1 := Γ') rfl ?_
      unfold b_turned_number
      exact sSq_rt ((sFor_of ri).trans e)
    · rename_i a' hd
      obtain ⟨Γ', e, s2, rfl⟩ := F.2 a' hd
      refine run_rt (Γ1 := [.val (.int a), .val (.int n), s2]) rfl ?_
      unfold b_turned_number
      exact (sSq_nx ((sFor_of ri).trans e)).trans rfl
  · cases h

/-! square_sign -/
abbrev S3 := Nat × Nat × Int
def iT (s : S3) : Bool := decide (s.1 % 2 = 0)
def iF (s : S3) : S3 := (s.1 / 2, s.2.1, if s.2.1 % 8 = 3 ∨ s.2.1 % 8 = 5 then -s.2.2 else s.2.2)
def oT (s : S3) : Bool := decide (0 < s.1)
def oF (s : S3) : S3 := (((wh iT iF 1999 s).2.1 % (wh iT iF 1999 s).1), (wh iT iF 1999 s).1, if (wh iT iF 1999 s).2.1 % 4 = 3 ∧ (wh iT iF 1999 s).1 % 4 = 3 then -(wh iT iF 1999 s).2.2 else (wh iT iF 1999 s).2.2)
def signN (a n : Nat) : Int := if (wh oT oF 1999 (a, n, 1)).2.1 = 1 then (wh oT oF 1999 (a, n, 1)).2.2 else 0
def n_square_sign : List D → Option D
  | [.int a, .int n] => if decide (0 < n) && decide (n < 1999) then some (.int (signN (a % n).toNat n.toNat)) else none
  | _ => none
def enS (s : S3) : En := [.val (.int s.1), .val (.int s.2.1), .val (.int s.2.2)]
theorem i_end (s : S3) (h : s.1 ≤ 1999) (h0 : 0 < s.1) : iT (wh iT iF 1999 s) = false :=
  wh_end (P := fun s => 0 < s.1) Prod.fst (fun a p h => by
    have h : a.1 % 2 = 0 := of_decide_eq_true h
    have p : 0 < a.1 := p
    exact ⟨(show 0 < a.1 / 2 by omega), (show a.1 / 2 < a.1 by omega)⟩) 1999 s h0 h
theorem deq_nat (x y : Nat) : dEq (.int x) (.int y) = some (.bl (decide (x = y))) := by
  show some (D.bl (D.eqb (.int x) (.int y))) = _
  rw [eq_int]
theorem dne_nat (x y : Nat) : dNe (.int x) (.int y) = some (.bl (!decide (x = y))) := by
  show some (D.bl (!D.eqb (.int x) (.int y))) = _
  rw [eq_int]
theorem neg_if (c : Bool) (b : MS) {Γ Γ1 : En} {t : MT} (ht : t Γ = some c) (h1 : c = true → b Γ = some (.nx, Γ1)) (h2 : c = false → Γ = Γ1) : sIf t b sNx Γ = some (.nx, Γ1) := by
  cases c with
  | true => rw [sIf_t ht]; exact h1 rfl
  | false => rw [sIf_f ht, ← h2 rfl]; rfl
theorem i_body (s : S3) : (sSq (sAug 0 dDiv (mC (.int 2))) (sIf (mTB (mBin dIn (mBin dMod (mVarB 1) (mC (.int 8))) (mTup (mCons (mC (.int 3)) (mCons (mC (.int 5)) mNil))))) (sSet 2 (xV (mUn dNeg (mVarB 2)))) sNx)) (enS s) = some (.nx, enS (iF s)) := by
  obtain ⟨a, n, s⟩ := s
  refine (sSq_nx (Γ1 := [.val (.int (a / 2 : Nat)), .val (.int n), .val (.int s)]) rfl).trans (neg_if (decide (n % 8 = 3 ∨ n % 8 = 5)) _ ?_ ?_ ?_)
  · refine mTB_of ((mBin_of (x := .int (n % 8 : Nat)) (y := .tup [.int 3, .int 5]) rfl rfl).trans ?_)
    show some (D.bl (D.eqb (.int 3) (.int (n % 8 : Nat)) || (D.eqb (.int 5) (.int (n % 8 : Nat)) || false))) = _
    rw [show D.eqb (.int 3) (.int (n % 8 : Nat)) = decide (3 = n % 8) from eq_int, show D.eqb (.int 5) (.int (n % 8 : Nat)) = decide (5 = n % 8) from eq_int]
    by_cases h3 : n % 8 = 3
    · rw [decide_eq_true h3.symm, decide_eq_true (show n % 8 = 3 ∨ n % 8 = 5 from .inl h3)]; rfl
    · by_cases h5 : n % 8 = 5
      · rw [decide_eq_true h5.symm, decide_eq_true (show n % 8 = 3 ∨ n % 8 = 5 from .inr h5), decide_eq_false (Ne.symm h3)]; rfl
      · rw [decide_eq_false (Ne.symm h3), decide_eq_false (Ne.symm h5), decide_eq_false (by omega)]; rfl
  · intro h
    have h := of_decide_eq_true h
    show some (Fl.nx, [Slot.val (.int (a / 2 : Nat)), .val (.int n), .val (.int (-s))]) = some (Fl.nx, [Slot.val (.int (a / 2 : Nat)), .val (.int n), .val (.int (if n % 8 = 3 ∨ n % 8 = 5 then -s else s))])
    rw [if_pos h]
  · intro h
    have h := of_decide_eq_false h
    show [Slot.val (.int (a / 2 : Nat)), .val (.int n), .val (.int s)] = [Slot.val (.int (a / 2 : Nat)), .val (.int n), .val (.int (if n % 8 = 3 ∨ n % 8 = 5 then -s else s))]
    rw [if_neg h]
theorem o_body (s : S3) (h0 : 0 < s.1) (h1 : s.1 ≤ 1999) : (0 < (wh iT iF 1999 s).1 ∧ (wh iT iF 1999 s).1 ≤ s.1) ∧ (sSq (mWh (mTB (mBin dEq (mBin dMod (mVarB 0) (mC (.int 2))) (mC (.int 0)))) (sSq (sAug 0 dDiv (mC (.int 2))) (sIf (mTB (mBin dIn (mBin dMod (mVarB 1) (mC (.int 8))) (mTup (mCons (mC (.int 3)) (mCons (mC (.int 5)) mNil))))) (sSet 2 (xV (mUn dNeg (mVarB 2)))) sNx)) 2000) (sSq (sPar 0 1 (xV (mVar 1)) (xV (mVar 0))) (sSq (sIf (mtAnd (mTB (mBin dEq (mBin dMod (mVarB 0) (mC (.int 4))) (mC (.int 3)))) (mTB (mBin dEq (mBin dMod (mVarB 1) (mC (.int 4))) (mC (.int 3))))) (sSet 2 (xV (mUn dNeg (mVarB 2)))) sNx) (sAug 0 dMod (mVarB 1))))) (enS s) = some (.nx, enS (oF s)) := by
  obtain ⟨Γ', e, e2, p1, p2⟩ := wh_run (c := (mTB (mBin dEq (mBin dMod (mVarB 0) (mC (.int 2))) (mC (.int 0))))) (b := (sSq (sAug 0 dDiv (mC (.int 2))) (sIf (mTB (mBin dIn (mBin dMod (mVarB 1) (mC (.int 8))) (mTup (mCons (mC (.int 3)) (mCons (mC (.int 5)) mNil))))) (sSet 2 (xV (mUn dNeg (mVarB 2)))) sNx))) iT iF (fun t Γ => Γ = enS t) (fun t => 0 < t.1 ∧ t.1 ≤ s.1)
    (fun t Γ _ e => by
      subst e
      exact mTB_of ((mBin_of (x := .int (t.1 % 2 : Nat)) (y := .int (0 : Nat)) rfl rfl).trans (deq_nat _ _)))
    (fun t Γ p e h => by
      subst e
      have h : t.1 % 2 = 0 := of_decide_eq_true h
      obtain ⟨p1, p2⟩ := p
      exact ⟨⟨(show 0 < t.1 / 2 by omega), (show t.1 / 2 ≤ s.1 by omega)⟩, _, i_body t, rfl⟩) 1999 s _ ⟨h0, Nat.le_refl _⟩ rfl (i_end s h1 h0)
  subst e2
  refine ⟨⟨p1, p2⟩, (sSq_nx e).trans ?_⟩
  unfold oF
  generalize wh iT iF 1999 s = r at *
  obtain ⟨a, n, g⟩ := r
  have p1 : 0 < a := p1
  refine (sSq_nx (Γ1 := [.val (.int n), .val (.int a), .val (.int g)]) rfl).trans ((sSq_nx (Γ1 := [.val (.int n), .val (.int a), .val (.int (if n % 4 = 3 ∧ a % 4 = 3 then -g else g))]) (neg_if (decide (n % 4 = 3 ∧ a % 4 = 3)) _ ?_ ?_ ?_)).trans ?_)
  · have t1 : mTB (mBin dEq (mBin dMod (mVarB 0) (mC (.int 4))) (mC (.int 3))) [.val (.int n), .val (.int a), .val (.int g)] = some (decide (n % 4 = 3)) := mTB_of ((mBin_of (x := .int (n % 4 : Nat)) (y := .int (3 : Nat)) rfl rfl).trans (deq_nat _ _))
    have t2 : mTB (mBin dEq (mBin dMod (mVarB 1) (mC (.int 4))) (mC (.int 3))) [.val (.int n), .val (.int a), .val (.int g)] = some (decide (a % 4 = 3)) := mTB_of ((mBin_of (x := .int (a % 4 : Nat)) (y := .int (3 : Nat)) rfl rfl).trans (deq_nat _ _))
    unfold mtAnd
    rw [t1]
    by_cases h3 : n % 4 = 3
    · rw [decide_eq_true h3]
      rw [Option.bind_some, if_pos rfl, t2]
      by_cases h4 : a % 4 = 3
      · rw [decide_eq_true h4, decide_eq_true ⟨h3, h4⟩]
      · rw [decide_eq_false h4, decide_eq_false (fun h => h4 h.2)]
    · rw [decide_eq_false h3, decide_eq_false (fun h => h3 h.1)]; rfl
  · intro h
    rw [if_pos (of_decide_eq_true h)]; rfl
  · intro h
    rw [if_neg (of_decide_eq_false h)]
  · show (some (D.int n)).bind (fun x => (some (D.int a)).bind fun y => (dMod x y).map fun z => (Fl.nx, _)) = _
    rw [Option.bind_some, Option.bind_some, mod_nat p1]; rfl
theorem le_square_sign : LeF n_square_sign m_square_sign := by
  intro x r h
  unfold n_square_sign at h
  split at h
  · rename_i a n
    obtain ⟨c, rfl⟩ := if_someP h
    simp only [Bool.and_eq_true, decide_eq_true_eq] at c
    obtain ⟨h0, h1⟩ := c
    obtain ⟨n, rfl⟩ := Int.eq_ofNat_of_zero_le (Int.le_of_lt h0)
    have ha := Int.emod_nonneg a (show (n : Int) ≠ 0 by omega)
    obtain ⟨b, hb⟩ := Int.eq_ofNat_of_zero_le ha
    have hb2 : b < n := by have := Int.emod_lt_of_pos a h0; omega
    have en : oT (wh oT oF 1999 (b, n, 1)) = false := wh_end (P := fun s => s.1 ≤ 1999) Prod.fst (fun s p h => by
      have h : 0 < s.1 := of_decide_eq_true h
      obtain ⟨⟨q1, q2⟩, _⟩ := o_body s h p
      have q3 := Nat.mod_lt (wh iT iF 1999 s).2.1 q1
      exact ⟨(show (wh iT iF 1999 s).2.1 % (wh iT iF 1999 s).1 ≤ 1999 by have p : s.1 ≤ 1999 := p; omega), (show (wh iT iF 1999 s).2.1 % (wh iT iF 1999 s).1 < s.1 by omega)⟩) 1999 (b, n, 1) (show b ≤ 1999 by omega) (show b ≤ 1999 by omega)
    obtain ⟨Γ', e, e2, _⟩ := wh_run (c := (mTB (mBin dNe (mVarB 0) (mC (.int 0))))) (b := (sSq (mWh (mTB (mBin dEq (mBin dMod (mVarB 0) (mC (.int 2))) (mC (.int 0)))) (sSq (sAug 0 dDiv (mC (.int 2))) (sIf (mTB (mBin dIn (mBin dMod (mVarB 1) (mC (.int 8))) (mTup (mCons (mC (.int 3)) (mCons (mC (.int 5)) mNil))))) (sSet 2 (xV (mUn dNeg (mVarB 2)))) sNx)) 2000) (sSq (sPar 0 1 (xV (mVar 1)) (xV (mVar 0))) (sSq (sIf (mtAnd (mTB (mBin dEq (mBin dMod (mVarB 0) (mC (.int 4))) (mC (.int 3)))) (mTB (mBin dEq (mBin dMod (mVarB 1) (mC (.int 4))) (mC (.int 3))))) (sSet 2 (xV (mUn dNeg (mVarB 2)))) sNx) (sAug 0 dMod (mVarB 1)))))) oT oF (fun t Γ => Γ = enS t) (fun t => t.1 ≤ 1999)
      (fun t Γ _ e => by
        subst e
        refine mTB_of ((mBin_of (x := .int t.1) (y := .int (0 : Nat)) rfl rfl).trans ((dne_nat _ _).trans ?_))
        unfold oT
        by_cases h : t.1 = 0
        · rw [decide_eq_true h, decide_eq_false (by omega)]; rfl
        · rw [decide_eq_false h, decide_eq_true (by omega)]; rfl)
      (fun t Γ p e h => by
        subst e
        have h : 0 < t.1 := of_decide_eq_true h
        obtain ⟨⟨q1, q2⟩, q⟩ := o_body t h p
        have q3 := Nat.mod_lt (wh iT iF 1999 t).2.1 q1
        exact ⟨(show (wh iT iF 1999 t).2.1 % (wh iT iF 1999 t).1 ≤ 1999 by have p : t.1 ≤ 1999 := p; omega), _, q, rfl⟩) 1999 (b, n, 1) _ (show b ≤ 1999 by omega) rfl en
    subst e2
    refine run_q rfl ?_
    unfold b_square_sign
    refine q_par (Γ := [.val (.int a), .val (.int n), .emp]) (d := .int b) (e := .int 1) ((mod_of rfl rfl h0).trans (by rw [hb])) rfl (q_nx e (q_ret ?_))
    rw [hb]
    show mIf _ _ _ _ = some (D.int (signN b n))
    unfold signN
    generalize wh oT oF 1999 (b, n, 1) = r
    unfold mIf
    rw [mTB_of (t := decide (r.2.1 = 1)) ((mBin_of (x := .int r.2.1) (y := .int (1 : Nat)) rfl rfl).trans (deq_nat _ _))]
    by_cases h : r.2.1 = 1
    · rw [decide_eq_true h, if_pos h]; rfl
    · rw [decide_eq_false h, if_neg h]; rfl
  · cases h
end SK

set_option Elab.async false
set_option linter.all false
set_option maxRecDepth 100000
set_option maxHeartbeats 4000000
set_option autoImplicit false
namespace SK
open PySem PySem.Spec PyProof.Rows L2

/-! ### typed mirrors: what a def computes, over plain types -/
/-! branches, fast in the kernel -/
noncomputable def bIf {α : Type} (b : Bool) (x y : α) : α := Bool.rec (motive := fun _ => α) y x b
noncomputable def tBind {α β : Type} (t : Option α) (k : α → Option β) : Option β := Option.rec (motive := fun _ => Option β) none k t
@[inline] def tLet {α β : Type} (x : α) (k : α → β) : β := k x
theorem bIf_eq {α : Type} (b : Bool) (x y : α) : bIf b x y = if b then x else y := by cases b <;> rfl
theorem tBind_eq {α β : Type} (t : Option α) (k : α → Option β) : tBind t k = t.bind k := by cases t <;> rfl
/-- how a block ends: falls through, returns, breaks, goes on -/
inductive Res (σ τ ρ : Type) where
  | nx (s : σ) | rt (r : ρ) | bk (s : τ) | ct (s : τ)
/-- how a loop ends -/
inductive Lp (σ ρ : Type) where
  | go (s : σ) | out (r : ρ)
noncomputable def tSq {σ σ' τ ρ : Type} (t : Option (Res σ τ ρ)) (k : σ → Option (Res σ' τ ρ)) : Option (Res σ' τ ρ) :=
  tBind t fun r => Res.rec (motive := fun _ => Option (Res σ' τ ρ)) k (fun r => some (.rt r)) (fun s => some (.bk s)) (fun s => some (.ct s)) r
noncomputable def tLp {σ σ' τ ρ : Type} (t : Option (Lp σ ρ)) (k : σ → Option (Res σ' τ ρ)) : Option (Res σ' τ ρ) :=
  tBind t fun r => Lp.rec (motive := fun _ => Option (Res σ' τ ρ)) k (fun r => some (.rt r)) r
noncomputable def yFor {α σ ρ : Type} (f : σ → α → Option (Res σ σ ρ)) (xs : List α) : σ → Option (Lp σ ρ) :=
  List.rec (motive := fun _ => σ → Option (Lp σ ρ)) (fun s => some (.go s)) (fun x _ ih s =>
    tBind (f s x) fun r => Res.rec (motive := fun _ => Option (Lp σ ρ)) ih (fun r => some (.out r)) (fun s => some (.go s)) ih r) xs
noncomputable def tWh {σ ρ : Type} (c : σ → Option Bool) (f : σ → Option (Res σ σ ρ)) (n : Nat) : σ → Option (Lp σ ρ) :=
  Nat.rec (motive := fun _ => σ → Option (Lp σ ρ)) (fun _ => none) (fun _ ih s =>
    tBind (c s) fun b => bIf b (tBind (f s) fun r => Res.rec (motive := fun _ => Option (Lp σ ρ)) ih (fun r => some (.out r)) (fun s => some (.go s)) ih r) (some (.go s))) n
noncomputable def tRun {ρ : Type} (t : Option (Res Unit Unit ρ)) : Option ρ :=
  tBind t fun r => Res.rec (motive := fun _ => Option ρ) (fun _ => none) some (fun _ => none) (fun _ => none) r
/-- None at the end -/
noncomputable def tRunN {ρ : Type} (t : Option (Res Unit Unit (Option ρ))) : Option (Option ρ) :=
  tBind t fun r => Res.rec (motive := fun _ => Option (Option ρ)) (fun _ => some none) some (fun _ => none) (fun _ => none) r
/-- all items, or none -/
noncomputable def tAllO {α β : Type} (f : α → Option β) (xs : List α) : Option (List β) :=
  List.rec (motive := fun _ => Option (List β)) (some []) (fun x _ ih => tBind (f x) fun y => tBind ih fun ys => some (y :: ys)) xs
/-- items where told -/
noncomputable def tFilO {α β : Type} (c : α → Option Bool) (f : α → Option β) (xs : List α) : Option (List β) :=
  List.rec (motive := fun _ => Option (List β)) (some []) (fun x _ ih => tBind (c x) fun b => bIf b (tBind (f x) fun y => tBind ih fun ys => some (y :: ys)) ih) xs
noncomputable def tFlat {α β : Type} (c : α → Option Bool) (f : α → Option (List β)) (xs : List α) : Option (List β) :=
  List.rec (motive := fun _ => Option (List β)) (some []) (fun x _ ih => tBind (c x) fun b => bIf b (tBind (f x) fun y => tBind ih fun ys => some (y ++ ys)) ih) xs

/-! ints -/
noncomputable def iCase {α : Type} (f : Nat → α) (g : Nat → α) (i : Int) : α := Int.rec (motive := fun _ => α) f g i
noncomputable def iLt (i j : Int) : Bool := Int.rec (motive := fun _ => Bool) (fun a => Int.rec (motive := fun _ => Bool) (fun b => Nat.ble (Nat.succ a) b) (fun _ => false) j) (fun a => Int.rec (motive := fun _ => Bool) (fun _ => true) (fun b => Nat.ble (Nat.succ b) a) j) i
noncomputable def iLe (i j : Int) : Bool := Int.rec (motive := fun _ => Bool) (fun a => Int.rec (motive := fun _ => Bool) (fun b => Nat.ble a b) (fun _ => false) j) (fun a => Int.rec (motive := fun _ => Bool) (fun _ => true) (fun b => Nat.ble b a) j) i
noncomputable def iEq (i j : Int) : Bool := Int.rec (motive := fun _ => Bool) (fun a => Int.rec (motive := fun _ => Bool) (fun b => Nat.beq a b) (fun _ => false) j) (fun a => Int.rec (motive := fun _ => Bool) (fun _ => false) (fun b => Nat.beq a b) j) i
theorem iLt_eq (i j : Int) : iLt i j = decide (i < j) := by
  cases i with
  | ofNat a => cases j with
    | ofNat b => rw [Bool.eq_iff_iff, decide_eq_true_eq]; show Nat.ble (Nat.succ a) b = true ↔ _; rw [Nat.ble_eq, Int.ofNat_eq_natCast, Int.ofNat_eq_natCast]; omega
    | negSucc b => rw [Bool.eq_iff_iff, decide_eq_true_eq]; show false = true ↔ _; rw [Int.ofNat_eq_natCast]; simp only [Bool.false_eq_true, false_iff]; omega
  | negSucc a => cases j with
    | ofNat b => rw [Bool.eq_iff_iff, decide_eq_true_eq]; show true = true ↔ _; rw [Int.ofNat_eq_natCast]; simp only [true_iff]; omega
    | negSucc b => rw [Bool.eq_iff_iff, decide_eq_true_eq]; show Nat.ble (Nat.succ b) a = true ↔ _; rw [Nat.ble_eq]; omega
theorem iLe_eq (i j : Int) : iLe i j = decide (i ≤ j) := by
  cases i with
  | ofNat a => cases j with
    | ofNat b => rw [Bool.eq_iff_iff, decide_eq_true_eq]; show Nat.ble a b = true ↔ _; rw [Nat.ble_eq, Int.ofNat_eq_natCast, Int.ofNat_eq_natCast]; omega
    | negSucc b => rw [Bool.eq_iff_iff, decide_eq_true_eq]; show false = true ↔ _; rw [Int.ofNat_eq_natCast]; simp only [Bool.false_eq_true, false_iff]; omega
  | negSucc a => cases j with
    | ofNat b => rw [Bool.eq_iff_iff, decide_eq_true_eq]; show true = true ↔ _; rw [Int.ofNat_eq_natCast]; simp only [true_iff]; omega
    | negSucc b => rw [Bool.eq_iff_iff, decide_eq_true_eq]; show Nat.ble b a = true ↔ _; rw [Nat.ble_eq]; omega
theorem iEq_eq (i j : Int) : iEq i j = decide (i = j) := by
  cases i with
  | ofNat a => cases j with
    | ofNat b => rw [Bool.eq_iff_iff, decide_eq_true_eq]; show Nat.beq a b = true ↔ _; rw [Nat.beq_eq, Int.ofNat_eq_natCast, Int.ofNat_eq_natCast]; omega
    | negSucc b => rw [Bool.eq_iff_iff, decide_eq_true_eq]; show false = true ↔ _; rw [Int.ofNat_eq_natCast]; simp only [Bool.false_eq_true, false_iff]; omega
  | negSucc a => cases j with
    | ofNat b => rw [Bool.eq_iff_iff, decide_eq_true_eq]; show false = true ↔ _; rw [Int.ofNat_eq_natCast]; simp only [Bool.false_eq_true, false_iff]; omega
    | negSucc b => rw [Bool.eq_iff_iff, decide_eq_true_eq]; show Nat.beq a b = true ↔ _; rw [Nat.beq_eq]; omega
theorem iEq_beq (i j : Int) : (i == j) = iEq i j := by rw [iEq_eq]; rfl
noncomputable def iAdd (i j : Int) : Int := Int.rec (motive := fun _ => Int) (fun a => Int.rec (motive := fun _ => Int) (fun b => .ofNat (Nat.add a b)) (fun b => Int.add i j) j) (fun a => Int.add i j) i
noncomputable def iSub (i j : Int) : Int := Int.rec (motive := fun _ => Int) (fun a => Int.rec (motive := fun _ => Int) (fun b => Bool.rec (motive := fun _ => Int) (.negSucc (Nat.sub (Nat.sub b a) 1)) (.ofNat (Nat.sub a b)) (Nat.ble b a)) (fun b => Int.sub i j) j) (fun a => Int.sub i j) i
noncomputable def iMul (i j : Int) : Int := Int.rec (motive := fun _ => Int) (fun a => Int.rec (motive := fun _ => Int) (fun b => .ofNat (Nat.mul a b)) (fun b => Int.mul i j) j) (fun a => Int.mul i j) i
noncomputable def iDiv (i j : Int) : Int := Int.rec (motive := fun _ => Int) (fun a => Int.rec (motive := fun _ => Int) (fun b => .ofNat (Nat.div a b)) (fun b => i / j) j) (fun a => i / j) i
noncomputable def iMod (i j : Int) : Int := Int.rec (motive := fun _ => Int) (fun a => Int.rec (motive := fun _ => Int) (fun b => .ofNat (Nat.mod a b)) (fun b => Int.emod i j) j) (fun a => Int.emod i j) i
noncomputable def iNeg (i : Int) : Int := Int.rec (motive := fun _ => Int) (fun a => Nat.rec (motive := fun _ => Int) (.ofNat 0) (fun n _ => .negSucc n) a) (fun a => .ofNat (Nat.succ a)) i
noncomputable def nAbs (i : Int) : Nat := Int.rec (motive := fun _ => Nat) (fun a => a) (fun a => Nat.succ a) i
noncomputable def iAbs (i : Int) : Int := .ofNat (nAbs i)
theorem nAbs_eq (i : Int) : nAbs i = i.natAbs := by cases i <;> rfl
theorem iAdd_eq (i j : Int) : iAdd i j = i + j := by cases i <;> cases j <;> rfl
theorem iSub_eq (i j : Int) : iSub i j = i - j := by
  cases i with
  | negSucc a => cases j <;> rfl
  | ofNat a => cases j with
    | negSucc b => rfl
    | ofNat b =>
      show Bool.rec (motive := fun _ => Int) (.negSucc (Nat.sub (Nat.sub b a) 1)) (.ofNat (Nat.sub a b)) (Nat.ble b a) = _
      cases h : Nat.ble b a with
      | true =>
        have h := Nat.le_of_ble_eq_true h
        show Int.ofNat (a - b) = _
        simp only [Int.ofNat_eq_natCast]; omega
      | false =>
        have h : ¬ b ≤ a := fun z => by rw [Nat.ble_eq_true_of_le z] at h; cases h
        show Int.negSucc (b - a - 1) = _
        simp only [Int.ofNat_eq_natCast]; omega
theorem iMul_eq (i j : Int) : iMul i j = i * j := by cases i <;> cases j <;> rfl
theorem iDiv_eq (i j : Int) : iDiv i j = i / j := by cases i <;> cases j <;> rfl
theorem iMod_eq (i j : Int) : iMod i j = i % j := by cases i <;> cases j <;> rfl
theorem iNeg_eq (i : Int) : iNeg i = -i := by
  cases i with
  | ofNat a => cases a <;> rfl
  | negSucc a => rfl
theorem iAbs_eq (i : Int) : iAbs i = if i < 0 then -i else i := by
  unfold iAbs
  rw [nAbs_eq]
  simp only [Int.ofNat_eq_natCast]
  split <;> omega
def bNot (b : Bool) : Bool := Bool.not b
noncomputable def bAnd (a b : Bool) : Bool := bIf a b false
noncomputable def bOr (a b : Bool) : Bool := bIf a true b
theorem bAnd_eq (a b : Bool) : bAnd a b = (a && b) := by cases a <;> rfl
theorem bOr_eq (a b : Bool) : bOr a b = (a || b) := by cases a <;> rfl
theorem bNot_eq (a : Bool) : bNot a = !a := rfl
noncomputable def iMax (i j : Int) : Int := bIf (iLt i j) j i
noncomputable def iMin (i j : Int) : Int := bIf (iLt j i) j i
noncomputable def iOfB (b : Bool) : Int := bIf b (.ofNat 1) (.ofNat 0)
noncomputable def sm64 (i : Int) : Bool := Nat.ble (Nat.succ (nAbs i)) 18446744073709551616
noncomputable def yMul (i j : Int) : Option Int := bIf (bOr (sm64 j) (sm64 i)) (some (iMul i j)) none
noncomputable def tDiv (i j : Int) : Option Int := bIf (bAnd (iLt (.ofNat 0) j) (iLt j (.ofNat 1073741824))) (some (iDiv i j)) none
noncomputable def tMod (i j : Int) : Option Int := Int.rec (motive := fun _ => Option Int) (fun b => Nat.rec (motive := fun _ => Option Int) none (fun _ _ => some (iMod i j)) b) (fun _ => none) j
noncomputable def tPow (i j : Int) : Option Int := bIf (bAnd (iLe (.ofNat 0) j) (bAnd (iLe j (.ofNat 1000000)) (sm64 i))) (some (i ^ j.toNat)) none
noncomputable def tShl (i j : Int) : Option Int := bIf (bAnd (iLe (.ofNat 0) j) (bAnd (iLe j (.ofNat 1000000)) (sm64 i))) (some (i * 2 ^ j.toNat)) none
noncomputable def tShr (i j : Int) : Option Int := bIf (iLe (.ofNat 0) j) (some (i / 2 ^ j.toNat)) none
/-! lists -/
noncomputable def tLenN {α : Type} (xs : List α) : Nat := List.rec (motive := fun _ => Nat) 0 (fun _ _ n => Nat.succ n) xs
theorem tLenN_eq {α : Type} (xs : List α) : tLenN xs = xs.length := by
  induction xs with
  | nil => rfl
  | cons x xs ih => show Nat.succ (tLenN xs) = _; rw [ih]; rfl
noncomputable def iLen {α : Type} (xs : List α) : Int := .ofNat (tLenN xs)
theorem iLen_eq {α : Type} (xs : List α) : iLen xs = xs.length := by unfold iLen; rw [tLenN_eq]; rfl
noncomputable def tNth {α : Type} (xs : List α) : Nat → Option α := List.rec (motive := fun _ => Nat → Option α) (fun _ => none) (fun x _ ih n => Nat.rec (motive := fun _ => Option α) (some x) (fun n _ => ih n) n) xs
theorem tNth_eq {α : Type} (xs : List α) : ∀ n : Nat, tNth xs n = xs[n]? := by
  induction xs with
  | nil => intro n; rfl
  | cons x xs ih => intro n; cases n with
    | zero => rfl
    | succ n => show tNth xs n = _; rw [ih]; rfl
noncomputable def tIx {α : Type} (xs : List α) (i : Int) : Option α := Int.rec (motive := fun _ => Option α) (fun n => tNth xs n)
  (fun k => bIf (Nat.blt k (tLenN xs)) (tNth xs (Nat.sub (tLenN xs) (Nat.succ k))) none) i
theorem tIx_eq {α : Type} (xs : List α) (i : Int) : tIx xs i = atI xs i := by
  unfold atI ixN
  cases i with
  | ofNat n =>
    show tNth xs n = _
    rw [tNth_eq, Int.ofNat_eq_natCast, if_pos (show (0 : Int) ≤ (n : Int) by omega)]
    by_cases h : (n : Int) < xs.length
    · rw [if_pos h]; rfl
    · rw [if_neg h, List.getElem?_eq_none (by omega)]; rfl
  | negSucc k =>
    show bIf (Nat.blt k (tLenN xs)) (tNth xs (Nat.sub (tLenN xs) (Nat.succ k))) none = _
    rw [bIf_eq, tNth_eq, tLenN_eq, if_neg (show ¬ (0 : Int) ≤ Int.negSucc k by omega)]
    by_cases h : k < xs.length
    · rw [if_pos (show Nat.blt k xs.length = true by rw [Nat.blt_eq]; exact h), if_pos (show -(xs.length : Int) ≤ Int.negSucc k by omega)]
      show _ = xs[_]?
      congr 1
      show xs.length - (k + 1) = _
      omega
    · rw [if_neg (show ¬ Nat.blt k xs.length = true by rw [Nat.blt_eq]; exact h), if_neg (show ¬ -(xs.length : Int) ≤ Int.negSucc k by omega)]; rfl
noncomputable def tSetN {α : Type} (xs : List α) (v : α) : Nat → List α := List.rec (motive := fun _ => Nat → List α) (fun _ => []) (fun x xs ih n => Nat.rec (motive := fun _ => List α) (v :: xs) (fun n _ => x :: ih n) n) xs
theorem tSetN_eq {α : Type} (xs : List α) (v : α) : ∀ n : Nat, tSetN xs v n = xs.set n v := by
  induction xs with
  | nil => intro n; rfl
  | cons x xs ih => intro n; cases n with
    | zero => rfl
    | succ n => show x :: tSetN xs v n = _; rw [ih]; rfl
noncomputable def tIxN (n : Nat) (i : Int) : Option Nat := Int.rec (motive := fun _ => Option Nat) (fun k => bIf (Nat.blt k n) (some k) none)
  (fun k => bIf (Nat.blt k n) (some (Nat.sub n (Nat.succ k))) none) i
theorem tIxN_eq (n : Nat) (i : Int) : tIxN n i = ixN n i := by
  unfold ixN
  cases i with
  | ofNat k =>
    show bIf (Nat.blt k n) (some k) none = _
    rw [bIf_eq, Int.ofNat_eq_natCast, if_pos (show (0 : Int) ≤ (k : Int) by omega)]
    by_cases h : k < n
    · rw [if_pos (show Nat.blt k n = true by rw [Nat.blt_eq]; exact h), if_pos (show (k : Int) < n by omega)]; simp only [Int.toNat_natCast]
    · rw [if_neg (show ¬ Nat.blt k n = true by rw [Nat.blt_eq]; exact h), if_neg (show ¬ (k : Int) < n by omega)]
  | negSucc k =>
    show bIf (Nat.blt k n) (some (Nat.sub n (Nat.succ k))) none = _
    rw [bIf_eq, if_neg (show ¬ (0 : Int) ≤ Int.negSucc k by omega)]
    by_cases h : k < n
    · rw [if_pos (show Nat.blt k n = true by rw [Nat.blt_eq]; exact h), if_pos (show -(n : Int) ≤ Int.negSucc k by omega)]
      congr 1
      show n - (k + 1) = _
      omega
    · rw [if_neg (show ¬ Nat.blt k n = true by rw [Nat.blt_eq]; exact h), if_neg (show ¬ -(n : Int) ≤ Int.negSucc k by omega)]
noncomputable def tSet {α : Type} (xs : List α) (i : Int) (v : α) : Option (List α) := tBind (tIxN (tLenN xs) i) fun n => some (tSetN xs v n)
noncomputable def tCat {α : Type} (xs ys : List α) : List α := List.rec (motive := fun _ => List α) ys (fun x _ ih => x :: ih) xs
theorem tCat_eq {α : Type} (xs ys : List α) : tCat xs ys = xs ++ ys := by
  induction xs with
  | nil => rfl
  | cons x xs ih => show x :: tCat xs ys = _; rw [ih]; rfl
noncomputable def tLim {α : Type} (xs : List α) : Option (List α) := bIf (Nat.ble (tLenN xs) 16777216) (some xs) none
noncomputable def tApp {α : Type} (xs : List α) (x : α) : Option (List α) := tLim (tCat xs [x])
noncomputable def tSum (xs : List Int) : Int := List.rec (motive := fun _ => Int) (.ofNat 0) (fun x _ ih => iAdd x ih) xs
noncomputable def tAnyB (xs : List Bool) : Bool := List.rec (motive := fun _ => Bool) false (fun x _ ih => bOr x ih) xs
noncomputable def tAllB (xs : List Bool) : Bool := List.rec (motive := fun _ => Bool) true (fun x _ ih => bAnd x ih) xs
theorem tSum_eq (xs : List Int) : tSum xs = xs.sum := by
  induction xs with
  | nil => rfl
  | cons x xs ih => show iAdd x (tSum xs) = _; rw [ih, iAdd_eq]; rfl
theorem tAnyB_eq (xs : List Bool) : tAnyB xs = xs.any id := by
  induction xs with
  | nil => rfl
  | cons x xs ih => show bOr x (tAnyB xs) = _; rw [ih, bOr_eq]; rfl
theorem tAllB_eq (xs : List Bool) : tAllB xs = xs.all id := by
  induction xs with
  | nil => rfl
  | cons x xs ih => show bAnd x (tAllB xs) = _; rw [ih, bAnd_eq]; rfl
theorem tMod_eq (i j : Int) : tMod i j = if 0 < j then some (i % j) else none := by
  cases j with
  | ofNat b => cases b with
    | zero => rfl
    | succ b => rw [if_pos (by rw [Int.ofNat_eq_natCast]; omega), ← iMod_eq]; rfl
  | negSucc b => rw [if_neg (by omega)]; rfl
noncomputable def tMaxL (xs : List Int) : Option Int := List.rec (motive := fun _ => Option Int) none (fun x xs _ => some (maxI x xs)) xs
noncomputable def tMinL (xs : List Int) : Option Int := List.rec (motive := fun _ => Option Int) none (fun x xs _ => some (minI x xs)) xs
noncomputable def tUpN (a : Int) (n : Nat) : List Int := Nat.rec (motive := fun _ => Int → List Int) (fun _ => []) (fun _ ih a => a :: ih (iAdd a (.ofNat 1))) n a
theorem tUpN_eq (n : Nat) : ∀ a : Int, (tUpN a n).map D.int = rngD a (a + n) := by
  induction n with
  | zero => intro a; unfold rngD; rw [show (a + ((0 : Nat) : Int) - a).toNat = 0 by omega]; rfl
  | succ n ih =>
    intro a
    show D.int a :: (tUpN (iAdd a (.ofNat 1)) n).map D.int = _
    rw [ih]
    unfold rngD
    rw [iAdd_eq, show (a + ((n + 1 : Nat) : Int) - a).toNat = n + 1 by omega, show (a + Int.ofNat 1 + (n : Int) - (a + Int.ofNat 1)).toNat = n by omega, List.range_succ_eq_map, List.map_cons, List.map_map]
    congr 1
    · congr 1; omega
    · apply List.map_congr_left
      intro i _
      show D.int _ = D.int _
      congr 1
      simp only [Int.ofNat_eq_natCast]; omega
noncomputable def tRng (a b : Int) : Option (List Int) := bIf (bAnd (bAnd (bAnd (iLe (.negSucc 999999) a) (iLe a (.ofNat 1000000))) (iLe (.negSucc 999999) b)) (iLe b (.ofNat 1000000))) (some (tUpN a (iSub b a).toNat)) none
theorem tRng_some {a b : Int} {xs : List Int} (h : tRng a b = some xs) : okR a b = true ∧ xs.map D.int = rngD a b := by
  unfold tRng at h
  rw [bIf_eq] at h
  split at h
  · rename_i c
    cases h
    simp only [bAnd_eq, iLe_eq, Bool.and_eq_true, decide_eq_true_eq] at c
    refine ⟨?_, ?_⟩
    · unfold okR
      simp only [Bool.and_eq_true, decide_eq_true_eq]
      have e : Int.ofNat 1000000 = 1000000 := rfl
      rw [e] at c
      omega
    · rw [tUpN_eq, iSub_eq]
      unfold rngD
      rw [show (a + ((b - a).toNat : Int) - a).toNat = (b - a).toNat by omega]
  · cases h
def yCut {α : Type} (xs : List α) (lo hi : Option Int) : List α := (xs.drop (HT.sIx xs.length 0 lo)).take (HT.sIx xs.length xs.length hi - HT.sIx xs.length 0 lo)
noncomputable def tRepF {α : Type} (xs : List α) (n : Nat) : List α := Nat.rec (motive := fun _ => List α) [] (fun _ ih => tCat xs ih) n
theorem tRepF_eq {α : Type} (xs : List α) (n : Nat) : tRepF xs n = (List.replicate n xs).flatten := by
  induction n with
  | zero => rfl
  | succ n ih => show tCat xs (tRepF xs n) = _; rw [tCat_eq, ih, List.replicate_succ, List.flatten_cons]
noncomputable def tEnum {α : Type} (xs : List α) : List (Int × α) := List.rec (motive := fun _ => Int → List (Int × α)) (fun _ => []) (fun x _ ih n => (n, x) :: ih (iAdd n (.ofNat 1))) xs (.ofNat 0)
noncomputable def tZip {α β : Type} (xs : List α) : List β → List (α × β) := List.rec (motive := fun _ => List β → List (α × β)) (fun _ => []) (fun x _ ih ys => List.rec (motive := fun _ => List (α × β)) [] (fun y ys _ => (x, y) :: ih ys) ys) xs
theorem tZip_eq {α β : Type} (xs : List α) : ∀ ys : List β, tZip xs ys = xs.zip ys := by
  induction xs with
  | nil => intro ys; rfl
  | cons x xs ih => intro ys; cases ys with
    | nil => rfl
    | cons y ys => show (x, y) :: tZip xs ys = _; rw [ih]; rfl
noncomputable def tEmp {α : Type} (xs : List α) : Bool := List.rec (motive := fun _ => Bool) true (fun _ _ _ => false) xs
theorem tEmp_eq {α : Type} (xs : List α) : tEmp xs = xs.isEmpty := by cases xs <;> rfl
noncomputable def oIsN {α : Type} (x : Option α) : Bool := Option.rec (motive := fun _ => Bool) true (fun _ => false) x
theorem oIsN_eq {α : Type} (x : Option α) : oIsN x = x.isNone := by cases x <;> rfl

/-! ### how typed values stand as data -/
def eI (i : Int) : D := .int i
def eB (b : Bool) : D := .bl b
def eS (s : Str) : D := .str s
def eN (_ : Unit) : D := .non
def eT {α : Type} (e : α → D) (xs : List α) : D := .tup (xs.map e)
def eL {α : Type} (e : α → D) (xs : List α) : D := .lst (xs.map e)
def eP2 {α β : Type} (e : α → D) (f : β → D) (p : α × β) : D := .tup [e p.1, f p.2]
def eP3 {α β γ : Type} (e : α → D) (f : β → D) (g : γ → D) (p : α × β × γ) : D := .tup [e p.1, f p.2.1, g p.2.2]
def eP4 {α β γ δ : Type} (e : α → D) (f : β → D) (g : γ → D) (k : δ → D) (p : α × β × γ × δ) : D := .tup [e p.1, f p.2.1, g p.2.2.1, k p.2.2.2]
def eP5 {α β γ δ ε : Type} (e : α → D) (f : β → D) (g : γ → D) (k : δ → D) (l : ε → D) (p : α × β × γ × δ × ε) : D := .tup [e p.1, f p.2.1, g p.2.2.1, k p.2.2.2.1, l p.2.2.2.2]
def eO {α : Type} (e : α → D) : Option α → D
  | none => .non
  | some x => e x
/-! equality of typed values -/
structure EqT {α : Type} (n : Nat) (e : α → D) (eq : α → α → Bool) : Prop where
  shp : ∀ x, D.shp n (e x) = true
  eqb : ∀ x y, D.eqb (e x) (e y) = eq x y
noncomputable def lEq {α : Type} (eq : α → α → Bool) (xs : List α) : List α → Bool :=
  List.rec (motive := fun _ => List α → Bool) (fun ys => tEmp ys) (fun x _ ih ys => List.rec (motive := fun _ => Bool) false (fun y ys _ => bAnd (eq x y) (ih ys)) ys) xs
noncomputable def pEq {α β : Type} (e : α → α → Bool) (f : β → β → Bool) (p q : α × β) : Bool := bAnd (e p.1 q.1) (f p.2 q.2)
noncomputable def p3Eq {α β γ : Type} (e : α → α → Bool) (f : β → β → Bool) (g : γ → γ → Bool) (p q : α × β × γ) : Bool := bAnd (e p.1 q.1) (bAnd (f p.2.1 q.2.1) (g p.2.2 q.2.2))
noncomputable def bEq (a b : Bool) : Bool := bIf a b (bNot b)
theorem bEq_eq (a b : Bool) : bEq a b = (a == b) := by cases a <;> cases b <;> rfl
theorem shp_up : ∀ {n m : Nat} {d : D}, n ≤ m → D.shp n d = true → D.shp m d = true := by
  intro n
  induction n with
  | zero => intro m d _ h; cases d <;> first | rfl | (cases m <;> exact h) | cases h
  | succ n ih =>
    intro m d hm h
    cases m with
    | zero => omega
    | succ m =>
      cases d with
      | tup xs => exact List.all_eq_true.mpr fun x hx => ih (Nat.le_of_succ_le_succ hm) (List.all_eq_true.mp h x hx)
      | lst xs => exact List.all_eq_true.mpr fun x hx => ih (Nat.le_of_succ_le_succ hm) (List.all_eq_true.mp h x hx)
      | _ => first | rfl | exact h
theorem eqI : EqT 0 eI iEq := ⟨fun _ => rfl, fun x y => (show (x == y) = _ from iEq_beq x y)⟩
theorem eqB : EqT 0 eB bEq := ⟨fun _ => rfl, fun x y => (bEq_eq x y).symm⟩
theorem eqbL_map {α : Type} {n : Nat} {e : α → D} {eq : α → α → Bool} (h : EqT n e eq) : ∀ xs ys : List α, D.eqbL (xs.map e) (ys.map e) = lEq eq xs ys
  | [], [] => by simp only [List.map_nil, D.eqbL]; rfl
  | [], _ :: _ => by simp only [List.map_nil, List.map_cons, D.eqbL]; rfl
  | _ :: _, [] => by simp only [List.map_nil, List.map_cons, D.eqbL]; rfl
  | x :: xs, y :: ys => by
    simp only [List.map_cons, D.eqbL]
    rw [h.eqb, eqbL_map h xs ys]
    exact (bAnd_eq _ _).symm
theorem eqT {α : Type} {n : Nat} {e : α → D} {eq : α → α → Bool} (h : EqT n e eq) : EqT (n + 1) (eT e) (lEq eq) :=
  ⟨fun xs => List.all_eq_true.mpr fun d hd => by obtain ⟨x, _, rfl⟩ := List.mem_map.mp hd; exact h.shp x, fun x y => by
    unfold eT; simp only [D.eqb]; exact eqbL_map h x y⟩
theorem eqL {α : Type} {n : Nat} {e : α → D} {eq : α → α → Bool} (h : EqT n e eq) : EqT (n + 1) (eL e) (lEq eq) :=
  ⟨fun xs => List.all_eq_true.mpr fun d hd => by obtain ⟨x, _, rfl⟩ := List.mem_map.mp hd; exact h.shp x, fun x y => by
    unfold eL; simp only [D.eqb]; exact eqbL_map h x y⟩
theorem eqP2 {α β : Type} {n m : Nat} {e : α → D} {f : β → D} {eq : α → α → Bool} {fq : β → β → Bool} (h : EqT n e eq) (k : EqT m f fq) : EqT (max n m + 1) (eP2 e f) (pEq eq fq) :=
  ⟨fun p => by
    show List.all [e p.1, f p.2] (D.shp (max n m)) = true
    simp only [List.all_cons, List.all_nil, shp_up (Nat.le_max_left n m) (h.shp _), shp_up (Nat.le_max_right n m) (k.shp _), Bool.and_true], fun p q => by
    unfold eP2; simp only [D.eqb, D.eqbL]; rw [h.eqb, k.eqb, Bool.and_true]; exact (bAnd_eq _ _).symm⟩
theorem eqP3 {α β γ : Type} {n m l : Nat} {e : α → D} {f : β → D} {g : γ → D} {eq : α → α → Bool} {fq : β → β → Bool} {gq : γ → γ → Bool} (h : EqT n e eq) (k : EqT m f fq) (j : EqT l g gq) : EqT (max n (max m l) + 1) (eP3 e f g) (p3Eq eq fq gq) :=
  ⟨fun p => by
    show List.all [e p.1, f p.2.1, g p.2.2] (D.shp (max n (max m l))) = true
    simp only [List.all_cons, List.all_nil, shp_up (Nat.le_max_left n _) (h.shp _), shp_up (Nat.le_trans (Nat.le_max_left m l) (Nat.le_max_right n _)) (k.shp _), shp_up (Nat.le_trans (Nat.le_max_right m l) (Nat.le_max_right n _)) (j.shp _), Bool.and_true], fun p q => by
    unfold eP3; simp only [D.eqb, D.eqbL]; rw [h.eqb, k.eqb, j.eqb, Bool.and_true]; unfold p3Eq; simp only [bAnd_eq]⟩
/-- never None -/
structure NN {α : Type} (e : α → D) : Prop where
  no : ∀ x, (e x).isN = false
theorem nnI : NN eI := ⟨fun _ => rfl⟩
theorem nnB : NN eB := ⟨fun _ => rfl⟩
theorem nnT {α : Type} {e : α → D} : NN (eT e) := ⟨fun _ => rfl⟩
theorem nnL {α : Type} {e : α → D} : NN (eL e) := ⟨fun _ => rfl⟩
theorem nnP2 {α β : Type} {e : α → D} {f : β → D} : NN (eP2 e f) := ⟨fun _ => rfl⟩
theorem nnP3 {α β γ : Type} {e : α → D} {f : β → D} {g : γ → D} : NN (eP3 e f g) := ⟨fun _ => rfl⟩
noncomputable def oEq {α : Type} (eq : α → α → Bool) (x y : Option α) : Bool := Option.rec (motive := fun _ => Bool) (oIsN y) (fun a => Option.rec (motive := fun _ => Bool) false (fun b => eq a b) y) x
theorem eqO {α : Type} {n : Nat} {e : α → D} {eq : α → α → Bool} (h : EqT n e eq) (k : NN e) : EqT n (eO e) (oEq eq) :=
  ⟨fun x => by cases x with
    | none => cases n <;> rfl
    | some x => exact h.shp x, fun x y => by
    cases x with
    | none => cases y with
      | none => rfl
      | some y =>
        show D.eqb .non (e y) = false
        have := k.no y
        cases q : e y <;> first | rfl | (rw [q] at this; cases this)
    | some x => cases y with
      | none =>
        show D.eqb (e x) .non = false
        have := k.no x
        cases q : e x <;> first | rfl | (rw [q] at this; cases this)
      | some y => exact h.eqb x y⟩
end SK

set_option Elab.async false
set_option linter.all false
set_option maxRecDepth 100000
set_option maxHeartbeats 4000000
set_option autoImplicit false
namespace SK
open PySem PySem.Spec PyProof.Rows L2

/-! ### what is known of the slots -/
abbrev Sp := List (Option Slot)
inductive Mt : Sp → En → Prop
  | n : Mt [] []
  | a {ss : Sp} {t : Slot} {Γ : En} : Mt ss Γ → Mt (none :: ss) (t :: Γ)
  | s {ss : Sp} {t : Slot} {Γ : En} : Mt ss Γ → Mt (some t :: ss) (t :: Γ)
inductive Sub : Sp → Sp → Prop
  | n : Sub [] []
  | a {o : Option Slot} {ss st : Sp} : Sub ss st → Sub (o :: ss) (none :: st)
  | s {o : Option Slot} {ss st : Sp} : Sub ss st → Sub (o :: ss) (o :: st)
def nthS : Sp → Nat → Option Slot
  | [], _ => none
  | o :: _, 0 => o
  | _ :: ss, n + 1 => nthS ss n
def setS : Sp → Nat → Option Slot → Sp
  | [], _, _ => []
  | _ :: ss, 0, v => v :: ss
  | o :: ss, n + 1, v => o :: setS ss n v
def wipeS (ss : Sp) : List Nat → Sp
  | [] => ss
  | v :: vs => setS (wipeS ss vs) v none
theorem Mt.sub : ∀ {ss st : Sp} {Γ : En}, Sub ss st → Mt ss Γ → Mt st Γ
  | _, _, _, .n, .n => .n
  | _, _, _, .a h, .a m => .a (m.sub h)
  | _, _, _, .a h, .s m => .a (m.sub h)
  | _, _, _, .s h, .a m => .a (m.sub h)
  | _, _, _, .s h, .s m => .s (m.sub h)
theorem Mt.get : ∀ {ss : Sp} {Γ : En} {i : Nat} {t : Slot}, Mt ss Γ → nthS ss i = some t → Γ[i]? = some t
  | _, _, _, _, .n, e => nomatch e
  | _, _, 0, _, .a m, e => nomatch e
  | _, _, 0, _, .s m, e => e
  | _, _, i + 1, _, .a m, e => (by rw [List.getElem?_cons_succ]; exact m.get e)
  | _, _, i + 1, _, .s m, e => (by rw [List.getElem?_cons_succ]; exact m.get e)
theorem Mt.set : ∀ {ss : Sp} {Γ : En} {i : Nat} {t : Slot}, Mt ss Γ → Mt (setS ss i (some t)) (Γ.set i t)
  | _, _, _, _, .n => .n
  | _, _, 0, _, .a m => .s m
  | _, _, 0, _, .s m => .s m
  | _, _, i + 1, _, .a m => .a m.set
  | _, _, i + 1, _, .s m => .s m.set
theorem Mt.any : ∀ {ss : Sp} {Γ : En} {i : Nat} {t : Slot}, Mt ss Γ → Mt (setS ss i none) (Γ.set i t)
  | _, _, _, _, .n => .n
  | _, _, 0, _, .a m => .a m
  | _, _, 0, _, .s m => .a m
  | _, _, i + 1, _, .a m => .a m.any
  | _, _, i + 1, _, .s m => .s m.any
theorem Mt.wipe {ss : Sp} {Γ : En} (m : Mt ss Γ) : ∀ vs : List Nat, Mt (wipeS ss vs) (wipeE Γ vs)
  | [] => m
  | v :: vs => (Mt.wipe m vs).any

/-! ### what an expression gives -/
def Eg {β : Type} (ss : Sp) (m : En → Option β) (b : β) : Prop := ∀ Γ, Mt ss Γ → m Γ = some b
def Eo {α β : Type} (ss : Sp) (m : En → Option β) (e : α → β) (t : Option α) : Prop := ∀ a, t = some a → Eg ss m (e a)
theorem tBind_some {α β : Type} {t : Option α} {k : α → Option β} {b : β} (h : tBind t k = some b) : ∃ a, t = some a ∧ k a = some b := by
  cases t with
  | none => cases h
  | some a => exact ⟨a, rfl, h⟩
theorem bIf_some {α : Type} {c : Bool} {a : α} {x : Option α} (h : bIf c x none = some a) : c = true ∧ x = some a := by
  cases c with
  | false => cases h
  | true => exact ⟨rfl, h⟩
section
variable {α β γ δ ε : Type} {ss : Sp}
theorem Eo.bind {m0 : En → Option β} {e0 : α → β} {t0 : Option α} {m : En → Option δ} {e : γ → δ} {k : α → Option γ} (h : Eo ss m0 e0 t0) (hk : ∀ x, Eg ss m0 (e0 x) → Eo ss m e (k x)) : Eo ss m e (tBind t0 k) := fun a ha => by
  obtain ⟨x, h1, h2⟩ := tBind_some ha
  exact hk x (h x h1) a h2
theorem Eo.ret {m : En → Option β} {e : α → β} {x : α} (h : Eg ss m (e x)) : Eo ss m e (some x) := fun a ha => by cases ha; exact h
/-! operands -/
theorem Eg.var {i : Nat} {d : D} (h : nthS ss i = some (.val d)) : Eg ss (mVar i) d := fun Γ m => by unfold mVar; rw [m.get h]
theorem Eg.varB {i : Nat} {d : D} (h : nthS ss i = some (.val d)) : Eg ss (mVarB i) d := fun Γ m => by unfold mVarB; rw [m.get h]
theorem Eg.varO {i : Nat} {d : D} (h : nthS ss i = some (.own d)) : Eg ss (mVarB i) d := fun Γ m => by unfold mVarB; rw [m.get h]
theorem Eg.c {d : D} : Eg ss (mC d) d := fun _ _ => rfl
theorem Eg.ci {i : Int} : Eg ss (mC (.int i)) (eI i) := fun _ _ => rfl
theorem Eg.cb {b : Bool} : Eg ss (mC (.bl b)) (eB b) := fun _ _ => rfl
theorem Eg.cs {s : Str} : Eg ss (mC (.str s)) (eS s) := fun _ _ => rfl
theorem Eg.cn {e : α → D} : Eg ss (mC .non) (eO e none) := fun _ _ => rfl
theorem Eg.sm {m : ME} {e : α → D} {x : α} (h : Eg ss m (e x)) : Eg ss m (eO e (some x)) := h
theorem Eo.get {m : ME} {e : α → D} {x : Option α} (h : Eg ss m (eO e x)) : Eo ss m e x := fun a ha => by subst ha; exact h
theorem Eg.bin {f : D → D → Option D} {a b : ME} {x y z : D} (ha : Eg ss a x) (hb : Eg ss b y) (h : f x y = some z) : Eg ss (mBin f a b) z := fun Γ m => by
  unfold mBin; rw [ha Γ m, hb Γ m]; exact h
theorem Eg.un {f : D → Option D} {a : ME} {x z : D} (ha : Eg ss a x) (h : f x = some z) : Eg ss (mUn f a) z := fun Γ m => by
  unfold mUn; rw [ha Γ m]; exact h
section
variable {a b c : ME} {i j k : Int}
theorem sm64_lt {i : Int} (h : sm64 i = true) : i.natAbs < 18446744073709551616 := by
  have := Nat.le_of_ble_eq_true h
  rw [nAbs_eq] at this
  exact this
theorem Eg.add (ha : Eg ss a (eI i)) (hb : Eg ss b (eI j)) : Eg ss (mBin dAdd a b) (eI (iAdd i j)) := Eg.bin ha hb (by rw [iAdd_eq]; rfl)
theorem Eg.addI (ha : Eg ss a (eI i)) (hb : Eg ss b (eI j)) : Eg ss (mBin dAddI a b) (eI (iAdd i j)) := Eg.bin ha hb (by rw [iAdd_eq]; rfl)
theorem Eg.sub (ha : Eg ss a (eI i)) (hb : Eg ss b (eI j)) : Eg ss (mBin dSub a b) (eI (iSub i j)) := Eg.bin ha hb (by rw [iSub_eq]; rfl)
theorem Eg.xor (ha : Eg ss a (eI i)) (hb : Eg ss b (eI j)) : Eg ss (mBin dXor a b) (eI (Builtin.bitXor i j)) := Eg.bin ha hb rfl
theorem Eg.bitAnd (ha : Eg ss a (eI i)) (hb : Eg ss b (eI j)) : Eg ss (mBin dAnd a b) (eI (Builtin.bitAnd i j)) := Eg.bin ha hb rfl
theorem Eg.bitOr (ha : Eg ss a (eI i)) (hb : Eg ss b (eI j)) : Eg ss (mBin dOr a b) (eI (Builtin.bitOr i j)) := Eg.bin ha hb rfl
theorem Eg.lt (ha : Eg ss a (eI i)) (hb : Eg ss b (eI j)) : Eg ss (mBin dLt a b) (eB (iLt i j)) := Eg.bin ha hb (by rw [iLt_eq]; rfl)
theorem Eg.le (ha : Eg ss a (eI i)) (hb : Eg ss b (eI j)) : Eg ss (mBin dLe a b) (eB (iLe i j)) := Eg.bin ha hb (by rw [iLe_eq]; rfl)
theorem Eg.gt (ha : Eg ss a (eI i)) (hb : Eg ss b (eI j)) : Eg ss (mBin dGt a b) (eB (iLt j i)) := Eg.bin ha hb (by rw [iLt_eq]; rfl)
theorem Eg.ge (ha : Eg ss a (eI i)) (hb : Eg ss b (eI j)) : Eg ss (mBin dGe a b) (eB (iLe j i)) := Eg.bin ha hb (by rw [iLe_eq]; rfl)
theorem Eg.neg (ha : Eg ss a (eI i)) : Eg ss (mUn dNeg a) (eI (iNeg i)) := Eg.un ha (by rw [iNeg_eq]; rfl)
theorem Eg.mulR (h : sm64 j = true) (ha : Eg ss a (eI i)) (hb : Eg ss b (eI j)) : Eg ss (mBin dMulI a b) (eI (iMul i j)) := Eg.bin ha hb (by rw [iMul_eq]; exact mulI_ok (okMul_r (sm64_lt h)))
theorem Eg.mulL (h : sm64 i = true) (ha : Eg ss a (eI i)) (hb : Eg ss b (eI j)) : Eg ss (mBin dMulI a b) (eI (iMul i j)) := Eg.bin ha hb (by rw [iMul_eq]; exact mulI_ok (okMul_l (sm64_lt h)))
theorem Eo.mul (ha : Eg ss a (eI i)) (hb : Eg ss b (eI j)) : Eo ss (mBin dMulI a b) eI (yMul i j) := fun x h => by
  obtain ⟨c, h⟩ := bIf_some h
  cases h
  rw [bOr_eq, Bool.or_eq_true] at c
  rcases c with c | c
  · exact Eg.mulR c ha hb
  · exact Eg.mulL c ha hb
theorem Eg.div (h : bAnd (iLt (.ofNat 0) j) (iLt j (.ofNat 1073741824)) = true) (ha : Eg ss a (eI i)) (hb : Eg ss b (eI j)) : Eg ss (mBin dDiv a b) (eI (iDiv i j)) := Eg.bin ha hb (by
  rw [bAnd_eq, iLt_eq, iLt_eq] at h
  show (if decide (0 < j) && decide (j < 1073741824) then some (D.int (i / j)) else none) = _
  rw [if_pos (show (decide (0 < j) && decide (j < 1073741824)) = true from h), iDiv_eq]; rfl)
theorem Eo.div (ha : Eg ss a (eI i)) (hb : Eg ss b (eI j)) : Eo ss (mBin dDiv a b) eI (tDiv i j) := fun x h => by
  obtain ⟨c, h⟩ := bIf_some h
  cases h
  exact Eg.div c ha hb
theorem Eg.mod (h : iLt (.ofNat 0) j = true) (ha : Eg ss a (eI i)) (hb : Eg ss b (eI j)) : Eg ss (mBin dMod a b) (eI (iMod i j)) := Eg.bin ha hb (by
  rw [iLt_eq] at h
  show (if decide (0 < j) then some (D.int (i % j)) else none) = _
  rw [if_pos (show decide (0 < j) = true from h), iMod_eq]; rfl)
theorem Eo.mod (ha : Eg ss a (eI i)) (hb : Eg ss b (eI j)) : Eo ss (mBin dMod a b) eI (tMod i j) := fun x h => by
  rw [tMod_eq] at h
  obtain ⟨c, rfl⟩ := if_someP h
  rw [← iMod_eq]
  exact Eg.mod (by rw [iLt_eq]; exact decide_eq_true c) ha hb
theorem nat64 {i : Int} (h : sm64 i = true) : decide (i.natAbs < 2 ^ 64) = true := by
  rw [two64]; exact decide_eq_true (sm64_lt h)
theorem Eo.pow (ha : Eg ss a (eI i)) (hb : Eg ss b (eI j)) : Eo ss (mBin dPow a b) eI (tPow i j) := fun x h => by
  obtain ⟨c, h⟩ := bIf_some h
  cases h
  rw [bAnd_eq, bAnd_eq, iLe_eq, iLe_eq, Bool.and_eq_true, Bool.and_eq_true] at c
  refine Eg.bin ha hb ?_
  show (if decide (0 ≤ j) && decide (j ≤ 1000000) && decide (i.natAbs < 2 ^ 64) then some (D.int (i ^ j.toNat)) else none) = _
  have c1 : decide (0 ≤ j) = true := c.1
  have c2 : decide (j ≤ 1000000) = true := c.2.1
  rw [nat64 c.2.2, c1, c2]; rfl
theorem Eo.shl (ha : Eg ss a (eI i)) (hb : Eg ss b (eI j)) : Eo ss (mBin dShl a b) eI (tShl i j) := fun x h => by
  obtain ⟨c, h⟩ := bIf_some h
  cases h
  rw [bAnd_eq, bAnd_eq, iLe_eq, iLe_eq, Bool.and_eq_true, Bool.and_eq_true] at c
  refine Eg.bin ha hb ?_
  show (if decide (0 ≤ j) && decide (j ≤ 1000000) && decide (i.natAbs < 2 ^ 64) then some (D.int (i * 2 ^ j.toNat)) else none) = _
  have c1 : decide (0 ≤ j) = true := c.1
  have c2 : decide (j ≤ 1000000) = true := c.2.1
  rw [nat64 c.2.2, c1, c2]; rfl
theorem Eo.shr (ha : Eg ss a (eI i)) (hb : Eg ss b (eI j)) : Eo ss (mBin dShr a b) eI (tShr i j) := fun x h => by
  obtain ⟨c, h⟩ := bIf_some h
  cases h
  rw [iLe_eq] at c
  refine Eg.bin ha hb ?_
  show (if decide (0 ≤ j) then some (D.int (i / 2 ^ j.toNat)) else none) = _
  have c1 : decide (0 ≤ j) = true := c
  rw [c1]; rfl
end
/-! sequences + -/
section
variable {a b : ME} {e : α → D} {xs ys : List α}
theorem tLim_some {xs ys : List α} (h : tLim xs = some ys) : ys = xs ∧ xs.length ≤ LIM := by
  obtain ⟨c, h⟩ := bIf_some h
  cases h
  refine ⟨rfl, ?_⟩
  have := Nat.le_of_ble_eq_true c
  rw [tLenN_eq] at this
  exact this
theorem Eo.catT (ha : Eg ss a (eT e xs)) (hb : Eg ss b (eT e ys)) : Eo ss (mBin dAdd a b) (eT e) (tLim (tCat xs ys)) := fun z h => by
  obtain ⟨rfl, c⟩ := tLim_some h
  rw [tCat_eq] at c ⊢
  refine Eg.bin ha hb ?_
  show (if (xs.map e).length + (ys.map e).length ≤ LIM then some (D.tup (xs.map e ++ ys.map e)) else none) = _
  rw [List.length_append] at c
  rw [List.length_map, List.length_map, if_pos c]
  unfold eT; rw [List.map_append]
theorem Eo.catL (ha : Eg ss a (eL e xs)) (hb : Eg ss b (eL e ys)) : Eo ss (mBin dAdd a b) (eL e) (tLim (tCat xs ys)) := fun z h => by
  obtain ⟨rfl, c⟩ := tLim_some h
  rw [tCat_eq] at c ⊢
  refine Eg.bin ha hb ?_
  show (if (xs.map e).length + (ys.map e).length ≤ LIM then some (D.lst (xs.map e ++ ys.map e)) else none) = _
  rw [List.length_append] at c
  rw [List.length_map, List.length_map, if_pos c]
  unfold eL; rw [List.map_append]
theorem Eo.catN (ha : Eg ss a (eL e xs)) (hb : Eg ss b (eL e ys)) : Eo ss (mBin dCat a b) (eL e) (tLim (tCat xs ys)) := fun z h => by
  obtain ⟨rfl, c⟩ := tLim_some h
  rw [tCat_eq] at c ⊢
  refine Eg.bin ha hb ?_
  show (if (xs.map e).length + (ys.map e).length ≤ LIM then some (D.lst (xs.map e ++ ys.map e)) else none) = _
  rw [List.length_append] at c
  rw [List.length_map, List.length_map, if_pos c]
  unfold eL; rw [List.map_append]
noncomputable def yRep (xs : List α) (k : Int) : Option (List α) := bIf (bAnd (iLe (.ofNat 0) k) (bAnd (iLe k (.ofNat 1000000)) (Nat.ble (Nat.mul (tLenN xs) k.toNat) 16777216))) (some (tRepF xs k.toNat)) none
theorem Eo.repL {k : Int} (ha : Eg ss a (eL e xs)) (hb : Eg ss b (eI k)) : Eo ss (mBin dRepL a b) (eL e) (yRep xs k) := fun z h => by
  obtain ⟨c, h⟩ := bIf_some h
  cases h
  rw [bAnd_eq, bAnd_eq, iLe_eq, iLe_eq, Bool.and_eq_true, Bool.and_eq_true, decide_eq_true_eq, decide_eq_true_eq, tLenN_eq] at c
  have c3 : xs.length * k.toNat ≤ LIM := Nat.le_of_ble_eq_true c.2.2
  have c1 : 0 ≤ k := c.1
  have c2 : k ≤ 1000000 := c.2.1
  refine Eg.bin ha hb ?_
  show (if okR 0 k && decide ((xs.map e).length * k.toNat ≤ LIM) then some (D.lst (List.replicate k.toNat (xs.map e)).flatten) else none) = _
  rw [List.length_map, if_pos (by unfold okR; simp only [Bool.and_eq_true, decide_eq_true_eq]; exact ⟨⟨⟨⟨by omega, by omega⟩, by omega⟩, by omega⟩, c3⟩), tRepF_eq]
  unfold eL
  rw [List.map_flatten, List.map_replicate]
end
/-! equality, is, in -/
section
variable {a b : ME} {e : α → D} {eq : α → α → Bool} {n : Nat} {x y : α} {xs : List α}
theorem Eg.eqq (h : EqT n e eq) (hn : Nat.ble n 8 = true) (ha : Eg ss a (e x)) (hb : Eg ss b (e y)) : Eg ss (mBin dEq a b) (eB (eq x y)) := Eg.bin ha hb (by
  have hn := Nat.le_of_ble_eq_true hn
  unfold dEq
  rw [shp_up hn (h.shp x), shp_up hn (h.shp y), h.eqb]; rfl)
theorem Eg.neq (h : EqT n e eq) (hn : Nat.ble n 8 = true) (ha : Eg ss a (e x)) (hb : Eg ss b (e y)) : Eg ss (mBin dNe a b) (eB (bNot (eq x y))) := Eg.bin ha hb (by
  have hn := Nat.le_of_ble_eq_true hn
  unfold dNe
  rw [shp_up hn (h.shp x), shp_up hn (h.shp y), h.eqb]; rfl)
theorem isN_eO (h : NN e) (x : Option α) : (eO e x).isN = oIsN x := by
  cases x with
  | none => rfl
  | some x => exact h.no x
theorem Eg.isN {x : Option α} (h : NN e) (ha : Eg ss a (eO e x)) : Eg ss (mBin dIs a (mC .non)) (eB (oIsN x)) := Eg.bin ha Eg.c (by
  rw [← isN_eO h]
  show dIs (eO e x) .non = some (.bl (eO e x).isN)
  unfold dIs; rfl)
theorem Eg.isNotN {x : Option α} (h : NN e) (ha : Eg ss a (eO e x)) : Eg ss (mBin dIsNot a (mC .non)) (eB (bNot (oIsN x))) := Eg.bin ha Eg.c (by
  rw [← isN_eO h]
  show dIsNot (eO e x) .non = some (.bl (!(eO e x).isN))
  unfold dIsNot; rfl)
theorem Eg.isB {x c : Bool} (ha : Eg ss a (eB x)) : Eg ss (mBin dIs a (mC (.bl c))) (eB (bEq x c)) := Eg.bin ha Eg.c (by
  rw [bEq_eq]; cases x <;> cases c <;> rfl)
theorem Eg.isNotB {x c : Bool} (ha : Eg ss a (eB x)) : Eg ss (mBin dIsNot a (mC (.bl c))) (eB (bNot (bEq x c))) := Eg.bin ha Eg.c (by
  rw [bEq_eq]; cases x <;> cases c <;> rfl)
structure FlT (e : α → D) : Prop where
  fl : ∀ x, (e x).flat = true
theorem flI : FlT eI := ⟨fun _ => rfl⟩
noncomputable def tIn (eq : α → α → Bool) (x : α) (xs : List α) : Bool := List.rec (motive := fun _ => Bool) false (fun y _ ih => bOr (eq y x) ih) xs
theorem tIn_any (eq : α → α → Bool) (x : α) (xs : List α) : tIn eq x xs = xs.any fun y => eq y x := by
  induction xs with
  | nil => rfl
  | cons y ys ih => show bOr (eq y x) (tIn eq x ys) = _; rw [ih, bOr_eq]; rfl
theorem in_flat (h : EqT n e eq) (f : FlT e) : (xs.map e).all D.flat = true ∧ ((xs.map e).any fun d => D.eqb d (e x)) = tIn eq x xs := by
  refine ⟨List.all_eq_true.mpr fun d hd => by obtain ⟨y, _, rfl⟩ := List.mem_map.mp hd; exact f.fl y, ?_⟩
  rw [tIn_any, List.any_map]
  congr 1
  funext y
  exact h.eqb y x
theorem Eg.inT (h : EqT n e eq) (f : FlT e) (ha : Eg ss a (e x)) (hb : Eg ss b (eT e xs)) : Eg ss (mBin dIn a b) (eB (tIn eq x xs)) := Eg.bin ha hb (by
  obtain ⟨h1, h2⟩ := in_flat (xs := xs) (x := x) h f
  show (if (e x).flat && (xs.map e).all D.flat then some (D.bl ((xs.map e).any fun d => D.eqb d (e x))) else none) = _
  rw [h1, h2, f.fl]; rfl)
theorem Eg.inL (h : EqT n e eq) (f : FlT e) (ha : Eg ss a (e x)) (hb : Eg ss b (eL e xs)) : Eg ss (mBin dIn a b) (eB (tIn eq x xs)) := Eg.bin ha hb (by
  obtain ⟨h1, h2⟩ := in_flat (xs := xs) (x := x) h f
  show (if (e x).flat && (xs.map e).all D.flat then some (D.bl ((xs.map e).any fun d => D.eqb d (e x))) else none) = _
  rw [h1, h2, f.fl]; rfl)
theorem Eg.notInT (h : EqT n e eq) (f : FlT e) (ha : Eg ss a (e x)) (hb : Eg ss b (eT e xs)) : Eg ss (mBin dNotIn a b) (eB (bNot (tIn eq x xs))) := Eg.bin ha hb (by
  obtain ⟨h1, h2⟩ := in_flat (xs := xs) (x := x) h f
  show (if (e x).flat && (xs.map e).all D.flat then some (D.bl (!(xs.map e).any fun d => D.eqb d (e x))) else none) = _
  rw [h1, h2, f.fl]; rfl)
theorem Eg.notInL (h : EqT n e eq) (f : FlT e) (ha : Eg ss a (e x)) (hb : Eg ss b (eL e xs)) : Eg ss (mBin dNotIn a b) (eB (bNot (tIn eq x xs))) := Eg.bin ha hb (by
  obtain ⟨h1, h2⟩ := in_flat (xs := xs) (x := x) h f
  show (if (e x).flat && (xs.map e).all D.flat then some (D.bl (!(xs.map e).any fun d => D.eqb d (e x))) else none) = _
  rw [h1, h2, f.fl]; rfl)
end
/-! tests -/
section
variable {a b : ME} {c d : MT} {x y : Bool} {ty : Option Bool}
theorem Eg.tb (h : Eg ss a (eB x)) : Eg ss (mTB a) x := fun Γ m => by unfold mTB; rw [h Γ m]; rfl
theorem Eg.tru (h : Eg ss a (eB x)) : Eg ss (mTru a) x := fun Γ m => by unfold mTru; rw [h Γ m]; rfl
theorem Eg.truI {i : Int} (h : Eg ss a (eI i)) : Eg ss (mTru a) (bNot (iEq i (.ofNat 0))) := fun Γ m => by
  unfold mTru; rw [h Γ m]
  show some (i != 0) = _
  rw [← iEq_beq]; rfl
theorem Eg.truT {e : α → D} {xs : List α} (h : Eg ss a (eT e xs)) : Eg ss (mTru a) (bNot (tEmp xs)) := fun Γ m => by
  unfold mTru; rw [h Γ m]
  show some (!(xs.map e).isEmpty) = _
  rw [List.isEmpty_map, tEmp_eq]; rfl
theorem Eg.truL {e : α → D} {xs : List α} (h : Eg ss a (eL e xs)) : Eg ss (mTru a) (bNot (tEmp xs)) := fun Γ m => by
  unfold mTru; rw [h Γ m]
  show some (!(xs.map e).isEmpty) = _
  rw [List.isEmpty_map, tEmp_eq]; rfl
theorem Eg.tand (hc : Eg ss c x) (hd : Eg ss d y) : Eg ss (mtAnd c d) (bAnd x y) := fun Γ m => by
  unfold mtAnd; rw [hc Γ m, Option.bind_some, hd Γ m]; cases x <;> rfl
theorem Eg.tor (hc : Eg ss c x) (hd : Eg ss d y) : Eg ss (mtOr c d) (bOr x y) := fun Γ m => by
  unfold mtOr; rw [hc Γ m, Option.bind_some, hd Γ m]; cases x <;> rfl
theorem Eg.tnot (hc : Eg ss c x) : Eg ss (mtNot c) (bNot x) := fun Γ m => by unfold mtNot; rw [hc Γ m]; rfl
theorem Eo.tand (hc : Eg ss c x) (hd : Eo ss d (fun b => b) ty) : Eo ss (mtAnd c d) (fun b => b) (bIf x ty (some false)) := fun z h Γ m => by
  unfold mtAnd; rw [hc Γ m]
  cases x with
  | false => cases h; rfl
  | true => exact hd z h Γ m
theorem Eo.tor (hc : Eg ss c x) (hd : Eo ss d (fun b => b) ty) : Eo ss (mtOr c d) (fun b => b) (bIf x (some true) ty) := fun z h Γ m => by
  unfold mtOr; rw [hc Γ m]
  cases x with
  | true => cases h; rfl
  | false => exact hd z h Γ m
theorem Eg.andE (ha : Eg ss a (eB x)) (hb : Eg ss b (eB y)) : Eg ss (mAnd a b) (eB (bAnd x y)) := fun Γ m => by
  unfold mAnd; rw [ha Γ m]
  cases x with
  | false => rfl
  | true => exact hb Γ m
theorem Eg.orE (ha : Eg ss a (eB x)) (hb : Eg ss b (eB y)) : Eg ss (mOr a b) (eB (bOr x y)) := fun Γ m => by
  unfold mOr; rw [ha Γ m]
  cases x with
  | true => rfl
  | false => exact hb Γ m
theorem Eo.andE (ha : Eg ss a (eB x)) (hb : Eo ss b eB ty) : Eo ss (mAnd a b) eB (bIf x ty (some false)) := fun z h Γ m => by
  unfold mAnd; rw [ha Γ m]
  cases x with
  | false => cases h; rfl
  | true => exact hb z h Γ m
theorem Eo.orE (ha : Eg ss a (eB x)) (hb : Eo ss b eB ty) : Eo ss (mOr a b) eB (bIf x (some true) ty) := fun z h Γ m => by
  unfold mOr; rw [ha Γ m]
  cases x with
  | true => cases h; rfl
  | false => exact hb z h Γ m
theorem Eg.notE (h : Eg ss a (eB x)) : Eg ss (mNot a) (eB (bNot x)) := fun Γ m => by unfold mNot; rw [h Γ m]; rfl
theorem Eg.notT {e : α → D} {xs : List α} (h : Eg ss a (eT e xs)) : Eg ss (mNot a) (eB (tEmp xs)) := fun Γ m => by
  unfold mNot; rw [h Γ m]
  show some (D.bl (!(!(xs.map e).isEmpty))) = _
  rw [List.isEmpty_map, tEmp_eq, Bool.not_not]; rfl
theorem Eg.notL {e : α → D} {xs : List α} (h : Eg ss a (eL e xs)) : Eg ss (mNot a) (eB (tEmp xs)) := fun Γ m => by
  unfold mNot; rw [h Γ m]
  show some (D.bl (!(!(xs.map e).isEmpty))) = _
  rw [List.isEmpty_map, tEmp_eq, Bool.not_not]; rfl
theorem Eg.ifx {e : α → D} {u v : α} (hc : Eg ss c x) (ha : Eg ss a (e u)) (hb : Eg ss b (e v)) : Eg ss (mIf c a b) (e (bIf x u v)) := fun Γ m => by
  unfold mIf; rw [hc Γ m]
  cases x with
  | true => exact ha Γ m
  | false => exact hb Γ m
theorem Eo.ifx {e : α → D} {u v : Option α} (hc : Eg ss c x) (ha : Eo ss a e u) (hb : Eo ss b e v) : Eo ss (mIf c a b) e (bIf x u v) := fun z h Γ m => by
  unfold mIf; rw [hc Γ m]
  cases x with
  | true => exact ha z h Γ m
  | false => exact hb z h Γ m
theorem cLt {i j : Int} : dLt (eI i) (eI j) = some (eB (iLt i j)) := by rw [iLt_eq]; rfl
theorem cLe {i j : Int} : dLe (eI i) (eI j) = some (eB (iLe i j)) := by rw [iLe_eq]; rfl
theorem cGt {i j : Int} : dGt (eI i) (eI j) = some (eB (iLt j i)) := by rw [iLt_eq]; rfl
theorem cGe {i j : Int} : dGe (eI i) (eI j) = some (eB (iLe j i)) := by rw [iLe_eq]; rfl
theorem Eg.chain {f g : D → D → Option D} {a b c : ME} {u v w : D} (ha : Eg ss a u) (hb : Eg ss b v) (hc : Eg ss c w) (hf : f u v = some (eB x)) (hg : g v w = some (eB y)) : Eg ss (mChain f g a b c) (eB (bAnd x y)) := fun Γ m => by
  unfold mChain
  rw [ha Γ m, hb Γ m, Option.bind_some, Option.bind_some, hf, Option.bind_some]
  show (some x).bind _ = _
  rw [Option.bind_some]
  cases x with
  | false => rfl
  | true => rw [if_pos rfl, hc Γ m]; exact hg
end
/-! displays -/
section
variable {a b c d : ME} {r : MA} {e : α → D} {f : β → D} {g : γ → D} {k : δ → D}
theorem Eg.a0 : Eg ss mNil [] := fun _ _ => rfl
theorem Eg.ac {x : D} {xs : List D} (ha : Eg ss a x) (hr : Eg ss r xs) : Eg ss (mCons a r) (x :: xs) := fun Γ m => by unfold mCons; rw [ha Γ m, hr Γ m]; rfl
theorem Eg.tup {xs : List D} (h : Eg ss r xs) (hl : Nat.ble xs.length 16777216 = true) : Eg ss (mTup r) (.tup xs) := fun Γ m => by
  unfold mTup; rw [h Γ m, Option.bind_some, if_pos (show xs.length ≤ LIM from Nat.le_of_ble_eq_true hl)]
theorem Eg.lst {xs : List D} (h : Eg ss r xs) (hl : Nat.ble xs.length 16777216 = true) : Eg ss (mLst r) (.lst xs) := fun Γ m => by
  unfold mLst; rw [h Γ m, Option.bind_some, if_pos (show xs.length ≤ LIM from Nat.le_of_ble_eq_true hl)]
theorem Eg.p2 {x : α} {y : β} (ha : Eg ss a (e x)) (hb : Eg ss b (f y)) : Eg ss (mTup (mCons a (mCons b mNil))) (eP2 e f (x, y)) := Eg.tup (.ac ha (.ac hb .a0)) rfl
theorem Eg.p3 {x : α} {y : β} {z : γ} (ha : Eg ss a (e x)) (hb : Eg ss b (f y)) (hc : Eg ss c (g z)) : Eg ss (mTup (mCons a (mCons b (mCons c mNil)))) (eP3 e f g (x, y, z)) := Eg.tup (.ac ha (.ac hb (.ac hc .a0))) rfl
theorem Eg.p4 {x : α} {y : β} {z : γ} {w : δ} (ha : Eg ss a (e x)) (hb : Eg ss b (f y)) (hc : Eg ss c (g z)) (hd : Eg ss d (k w)) : Eg ss (mTup (mCons a (mCons b (mCons c (mCons d mNil))))) (eP4 e f g k (x, y, z, w)) := Eg.tup (.ac ha (.ac hb (.ac hc (.ac hd .a0)))) rfl
theorem Eg.p5 {a5 : ME} {k5 : ε → D} {x : α} {y : β} {z : γ} {w : δ} {v : ε} (ha : Eg ss a (e x)) (hb : Eg ss b (f y)) (hc : Eg ss c (g z)) (hd : Eg ss d (k w)) (he : Eg ss a5 (k5 v)) : Eg ss (mTup (mCons a (mCons b (mCons c (mCons d (mCons a5 mNil)))))) (eP5 e f g k k5 (x, y, z, w, v)) := Eg.tup (.ac ha (.ac hb (.ac hc (.ac hd (.ac he .a0))))) rfl
theorem Eg.l0 : Eg ss mNil (([] : List α).map e) := fun _ _ => rfl
theorem Eg.lc {x : α} {xs : List α} (ha : Eg ss a (e x)) (hr : Eg ss r (xs.map e)) : Eg ss (mCons a r) ((x :: xs).map e) := Eg.ac ha hr
theorem Eg.tl {xs : List α} (h : Eg ss r (xs.map e)) (hl : Nat.ble xs.length 16777216 = true) : Eg ss (mTup r) (eT e xs) := Eg.tup h (by rw [List.length_map]; exact hl)
theorem Eg.ll {xs : List α} (h : Eg ss r (xs.map e)) (hl : Nat.ble xs.length 16777216 = true) : Eg ss (mLst r) (eL e xs) := Eg.lst h (by rw [List.length_map]; exact hl)
/-! subscripts -/
theorem ixO {f : D → D → Option D} {w : List D → D} {xs : List α} {i : Int} (hf : f (w (xs.map e)) (.int i) = atI (xs.map e) i) (ha : Eg ss a (w (xs.map e))) (hb : Eg ss b (eI i)) : Eo ss (mBin f a b) e (tIx xs i) := fun z h => by
  refine Eg.bin ha hb (hf.trans ?_)
  rw [tIx_eq] at h
  rw [atI_map, h, Option.map_some]
theorem Eo.ixT {xs : List α} {i : Int} (ha : Eg ss a (eT e xs)) (hb : Eg ss b (eI i)) : Eo ss (mBin dIx a b) e (tIx xs i) := ixO (w := .tup) rfl ha hb
theorem Eo.ixL {xs : List α} {i : Int} (ha : Eg ss a (eL e xs)) (hb : Eg ss b (eI i)) : Eo ss (mBin dIx a b) e (tIx xs i) := ixO (w := .lst) rfl ha hb
theorem Eg.ix20 {p : α × β} (ha : Eg ss a (eP2 e f p)) : Eg ss (mBin dIx a (mC (.int 0))) (e p.1) := Eg.bin ha Eg.c rfl
theorem Eg.ix21 {p : α × β} (ha : Eg ss a (eP2 e f p)) : Eg ss (mBin dIx a (mC (.int 1))) (f p.2) := Eg.bin ha Eg.c rfl
theorem Eg.ix30 {p : α × β × γ} (ha : Eg ss a (eP3 e f g p)) : Eg ss (mBin dIx a (mC (.int 0))) (e p.1) := Eg.bin ha Eg.c rfl
theorem Eg.ix31 {p : α × β × γ} (ha : Eg ss a (eP3 e f g p)) : Eg ss (mBin dIx a (mC (.int 1))) (f p.2.1) := Eg.bin ha Eg.c rfl
theorem Eg.ix32 {p : α × β × γ} (ha : Eg ss a (eP3 e f g p)) : Eg ss (mBin dIx a (mC (.int 2))) (g p.2.2) := Eg.bin ha Eg.c rfl
theorem Eg.on : Eg ss mONone none := fun _ _ => rfl
theorem Eg.os {i : Int} (ha : Eg ss a (eI i)) : Eg ss (mOSome a) (some i) := fun Γ m => by unfold mOSome; rw [ha Γ m]; rfl
theorem cut_map {xs : List α} {lo hi : Option Int} : cutD (xs.map e) lo hi = (yCut xs lo hi).map e := by
  unfold cutD yCut
  rw [List.length_map, List.map_take, List.map_drop]
theorem Eg.slT {xs : List α} {l h : MO} {lo hi : Option Int} (ha : Eg ss a (eT e xs)) (hl : Eg ss l lo) (hh : Eg ss h hi) : Eg ss (mSl a l h) (eT e (yCut xs lo hi)) := fun Γ m => by
  unfold mSl; rw [ha Γ m, hl Γ m, hh Γ m]
  show some (D.tup (cutD (xs.map e) lo hi)) = _
  rw [cut_map]; rfl
theorem Eg.slL {xs : List α} {l h : MO} {lo hi : Option Int} (ha : Eg ss a (eL e xs)) (hl : Eg ss l lo) (hh : Eg ss h hi) : Eg ss (mSl a l h) (eL e (yCut xs lo hi)) := fun Γ m => by
  unfold mSl; rw [ha Γ m, hl Γ m, hh Γ m]
  show some (D.lst (cutD (xs.map e) lo hi)) = _
  rw [cut_map]; rfl
theorem Eg.slN {xs : List α} {l h : MO} {lo hi : Option Int} (ha : Eg ss a (eL e xs)) (hl : Eg ss l lo) (hh : Eg ss h hi) : Eg ss (mSlL a l h) (eL e (yCut xs lo hi)) := fun Γ m => by
  unfold mSlL; rw [ha Γ m, hl Γ m, hh Γ m]
  show some (D.lst (cutD (xs.map e) lo hi)) = _
  rw [cut_map]; rfl
end
/-! calls -/
theorem Eo.call {m : List D → Option D} {ms : MA} {ds : List D} {e : α → D} {t : Option α} (T : ∀ r, t = some r → m ds = some (e r)) (h : Eg ss ms ds) : Eo ss (mCall m ms) e t := fun z hz Γ mm => by
  unfold mCall; rw [h Γ mm]; exact T z hz
theorem Eg.call {m : List D → Option D} {ms : MA} {ds : List D} {d : D} (T : m ds = some d) (h : Eg ss ms ds) : Eg ss (mCall m ms) d := fun Γ mm => by
  unfold mCall; rw [h Γ mm]; exact T
section
variable {a b : ME} {e : α → D} {xs : List α} {i j : Int}
theorem Eg.lenT (h : Eg ss a (eT e xs)) : Eg ss (mCall dLen (mCons a mNil)) (eI (iLen xs)) := Eg.call (by
  rw [iLen_eq]
  show some (D.int ((xs.map e).length : Nat)) = _
  rw [List.length_map]; rfl) (.ac h .a0)
theorem Eg.lenL (h : Eg ss a (eL e xs)) : Eg ss (mCall dLen (mCons a mNil)) (eI (iLen xs)) := Eg.call (by
  rw [iLen_eq]
  show some (D.int ((xs.map e).length : Nat)) = _
  rw [List.length_map]; rfl) (.ac h .a0)
theorem Eg.abs (h : Eg ss a (eI i)) : Eg ss (mCall dAbs (mCons a mNil)) (eI (iAbs i)) := Eg.call (by rw [iAbs_eq]; rfl) (.ac h .a0)
theorem Eg.max2 (ha : Eg ss a (eI i)) (hb : Eg ss b (eI j)) : Eg ss (mCall dMax2 (mCons a (mCons b mNil))) (eI (iMax i j)) := Eg.call (by
  unfold iMax
  rw [bIf_eq, iLt_eq]
  show some (D.int (if j > i then j else i)) = some (D.int (if decide (i < j) = true then j else i))
  by_cases h : i < j
  · rw [if_pos h, if_pos (decide_eq_true h)]
  · rw [if_neg h, if_neg (by rw [decide_eq_false h]; exact Bool.false_ne_true)]) (.ac ha (.ac hb .a0))
theorem Eg.min2 (ha : Eg ss a (eI i)) (hb : Eg ss b (eI j)) : Eg ss (mCall dMin2 (mCons a (mCons b mNil))) (eI (iMin i j)) := Eg.call (by
  unfold iMin
  rw [bIf_eq, iLt_eq]
  show some (D.int (if j < i then j else i)) = some (D.int (if decide (j < i) = true then j else i))
  by_cases h : j < i
  · rw [if_pos h, if_pos (decide_eq_true h)]
  · rw [if_neg h, if_neg (by rw [decide_eq_false h]; exact Bool.false_ne_true)]) (.ac ha (.ac hb .a0))
theorem Eg.int1 (h : Eg ss a (eI i)) : Eg ss (mCall dInt1 (mCons a mNil)) (eI i) := Eg.call rfl (.ac h .a0)
theorem Eg.int1B {x : Bool} (h : Eg ss a (eB x)) : Eg ss (mCall dInt1 (mCons a mNil)) (eI (iOfB x)) := Eg.call (by cases x <;> rfl) (.ac h .a0)
theorem map_int (ns : List Int) : ns.map eI = ns.map D.int := rfl
theorem Eg.sum {ns : List Int} (h : Eg ss a (eL eI ns)) : Eg ss (mCall dSum (mCons a mNil)) (eI (tSum ns)) := Eg.call (by
  show (intsOf (ns.map D.int)).map _ = _
  rw [intsOf_map, tSum_eq]; rfl) (.ac h .a0)
theorem Eg.any {bs : List Bool} (h : Eg ss a (eL eB bs)) : Eg ss (mCall dAny (mCons a mNil)) (eB (tAnyB bs)) := Eg.call (by
  show (blsOf (bs.map D.bl)).map _ = _
  rw [blsOf_map, tAnyB_eq]; rfl) (.ac h .a0)
theorem Eg.all {bs : List Bool} (h : Eg ss a (eL eB bs)) : Eg ss (mCall dAll (mCons a mNil)) (eB (tAllB bs)) := Eg.call (by
  show (blsOf (bs.map D.bl)).map _ = _
  rw [blsOf_map, tAllB_eq]; rfl) (.ac h .a0)
theorem Eo.max1 {ns : List Int} (h : Eg ss a (eL eI ns)) : Eo ss (mCall dMax1 (mCons a mNil)) eI (tMaxL ns) := Eo.call (fun r hr => by
  show (intsOf (ns.map D.int)).bind _ = _
  rw [intsOf_map]
  cases ns with
  | nil => cases hr
  | cons n ns => cases hr; rfl) (.ac h .a0)
theorem Eo.min1 {ns : List Int} (h : Eg ss a (eL eI ns)) : Eo ss (mCall dMin1 (mCons a mNil)) eI (tMinL ns) := Eo.call (fun r hr => by
  show (intsOf (ns.map D.int)).bind _ = _
  rw [intsOf_map]
  cases ns with
  | nil => cases hr
  | cons n ns => cases hr; rfl) (.ac h .a0)
theorem Eg.tupL (h : Eg ss a (eL e xs)) : Eg ss (mCall dTuple (mCons a mNil)) (eT e xs) := Eg.call rfl (.ac h .a0)
theorem Eg.tupT (h : Eg ss a (eT e xs)) : Eg ss (mCall dTuple (mCons a mNil)) (eT e xs) := Eg.call rfl (.ac h .a0)
theorem Eg.lstL (h : Eg ss a (eL e xs)) : Eg ss (mCall dList (mCons a mNil)) (eL e xs) := Eg.call rfl (.ac h .a0)
theorem Eg.lstT (h : Eg ss a (eT e xs)) : Eg ss (mCall dList (mCons a mNil)) (eL e xs) := Eg.call rfl (.ac h .a0)
theorem Eg.r1 (h : Eg ss a (eI i)) : Eg ss (mR1 a) (.ofNat 0, i) := fun Γ m => by unfold mR1; rw [h Γ m]; rfl
theorem Eg.r2 (h : Eg ss a (eI i)) (h2 : Eg ss b (eI j)) : Eg ss (mR2 a b) (i, j) := fun Γ m => by unfold mR2; rw [h Γ m, h2 Γ m]; rfl
theorem Eo.lstR {m : MR} (h : Eg ss m (i, j)) : Eo ss (mLstR m) (eL eI) (tRng i j) := fun z hz Γ mm => by
  obtain ⟨c, e⟩ := tRng_some hz
  unfold mLstR; rw [h Γ mm, Option.bind_some, if_pos c, ← e]; rfl
theorem Eo.tupR {m : MR} (h : Eg ss m (i, j)) : Eo ss (mTupR m) (eT eI) (tRng i j) := fun z hz Γ mm => by
  obtain ⟨c, e⟩ := tRng_some hz
  unfold mTupR; rw [h Γ mm, Option.bind_some, if_pos c, ← e]; rfl
/-! what is walked -/
theorem Eg.itT (h : Eg ss a (eT e xs)) : Eg ss (mItems a) (xs.map e) := fun Γ m => by unfold mItems; rw [h Γ m]; rfl
theorem Eg.itL (h : Eg ss a (eL e xs)) : Eg ss (mItems a) (xs.map e) := fun Γ m => by unfold mItems; rw [h Γ m]; rfl
theorem Eo.rng1 (h : Eg ss a (eI i)) : Eo ss (mRng1 a) (List.map eI) (tRng (.ofNat 0) i) := fun z hz Γ m => by
  obtain ⟨c, e⟩ := tRng_some hz
  unfold mRng1; rw [h Γ m]
  show (if okR 0 i then some (rngD 0 i) else none) = _
  have e' : z.map D.int = rngD 0 i := e
  have c' : okR 0 i = true := c
  rw [if_pos c', ← e']; rfl
theorem Eo.rng2 (h : Eg ss a (eI i)) (h2 : Eg ss b (eI j)) : Eo ss (mRng2 a b) (List.map eI) (tRng i j) := fun z hz Γ m => by
  obtain ⟨c, e⟩ := tRng_some hz
  unfold mRng2; rw [h Γ m, h2 Γ m]
  show (if okR i j then some (rngD i j) else none) = _
  rw [if_pos c, ← e]; rfl
theorem zipD_map {f : β → D} (ys : List β) : zipD (xs.map e) (ys.map f) = (tZip xs ys).map (eP2 e f) := by
  rw [tZip_eq]
  unfold zipD
  rw [List.zip_map, List.map_map]; rfl
theorem Eg.zipT {f : β → D} {ys : List β} (h : Eg ss a (eT e xs)) (h2 : Eg ss b (eT f ys)) : Eg ss (mZipA a b) ((tZip xs ys).map (eP2 e f)) := fun Γ m => by
  unfold mZipA; rw [h Γ m, h2 Γ m]
  show some (zipD _ _) = _
  rw [zipD_map]
theorem Eg.zipL {f : β → D} {ys : List β} (h : Eg ss a (eL e xs)) (h2 : Eg ss b (eL f ys)) : Eg ss (mZipA a b) ((tZip xs ys).map (eP2 e f)) := fun Γ m => by
  unfold mZipA; rw [h Γ m, h2 Γ m]
  show some (zipD _ _) = _
  rw [zipD_map]
end
end
/-! targets -/
def Tg (g : MG) (d : D) (ss st : Sp) : Prop := ∀ Γ, Mt ss Γ → ∃ Γ', g d Γ = some Γ' ∧ Mt st Γ'
def TgS (g : MGs) (ds : List D) (ss st : Sp) : Prop := ∀ Γ, Mt ss Γ → ∃ Γ', g ds Γ = some Γ' ∧ Mt st Γ'
theorem Tg.n {i : Nat} {d : D} {ss : Sp} : Tg (gN i) d ss (setS ss i (some (.val d))) := fun Γ m => ⟨_, rfl, m.set⟩
theorem TgS.n {ss : Sp} : TgS gsN [] ss ss := fun Γ m => ⟨Γ, rfl, m⟩
theorem TgS.c {g : MG} {r : MGs} {d : D} {ds : List D} {ss st su : Sp} (h : Tg g d ss st) (h2 : TgS r ds st su) : TgS (gsC g r) (d :: ds) ss su := fun Γ m => by
  obtain ⟨Γ1, e1, m1⟩ := h Γ m
  obtain ⟨Γ2, e2, m2⟩ := h2 Γ1 m1
  exact ⟨Γ2, by show (g d Γ).bind _ = _; rw [e1]; exact e2, m2⟩
theorem Tg.t {r : MGs} {ds : List D} {ss st : Sp} (h : TgS r ds ss st) : Tg (gT r) (.tup ds) ss st := h
theorem Tg.l {r : MGs} {ds : List D} {ss st : Sp} (h : TgS r ds ss st) : Tg (gL r) (.lst ds) ss st := h
theorem Tg.p2 {α β : Type} {e : α → D} {f : β → D} {p : α × β} {g1 g2 : MG} {ss st su : Sp} (h1 : Tg g1 (e p.1) ss st) (h2 : Tg g2 (f p.2) st su) : Tg (gT (gsC g1 (gsC g2 gsN))) (eP2 e f p) ss su := Tg.t (.c h1 (.c h2 .n))
theorem Tg.p3 {α β γ : Type} {e : α → D} {f : β → D} {h : γ → D} {p : α × β × γ} {g1 g2 g3 : MG} {ss st su sv : Sp} (h1 : Tg g1 (e p.1) ss st) (h2 : Tg g2 (f p.2.1) st su) (h3 : Tg g3 (h p.2.2) su sv) : Tg (gT (gsC g1 (gsC g2 (gsC g3 gsN)))) (eP3 e f h p) ss sv := Tg.t (.c h1 (.c h2 (.c h3 .n)))
theorem Tg.p4 {α β γ δ : Type} {e : α → D} {f : β → D} {h : γ → D} {k : δ → D} {p : α × β × γ × δ} {g1 g2 g3 g4 : MG} {ss st su sv sw : Sp} (h1 : Tg g1 (e p.1) ss st) (h2 : Tg g2 (f p.2.1) st su) (h3 : Tg g3 (h p.2.2.1) su sv) (h4 : Tg g4 (k p.2.2.2) sv sw) : Tg (gT (gsC g1 (gsC g2 (gsC g3 (gsC g4 gsN))))) (eP4 e f h k p) ss sw := Tg.t (.c h1 (.c h2 (.c h3 (.c h4 .n))))
theorem Tg.p5 {α β γ δ ε : Type} {e : α → D} {f : β → D} {h : γ → D} {k : δ → D} {l : ε → D} {p : α × β × γ × δ × ε} {g1 g2 g3 g4 g5 : MG} {ss st su sv sw sx : Sp} (h1 : Tg g1 (e p.1) ss st) (h2 : Tg g2 (f p.2.1) st su) (h3 : Tg g3 (h p.2.2.1) su sv) (h4 : Tg g4 (k p.2.2.2.1) sv sw) (h5 : Tg g5 (l p.2.2.2.2) sw sx) : Tg (gT (gsC g1 (gsC g2 (gsC g3 (gsC g4 (gsC g5 gsN)))))) (eP5 e f h k l p) ss sx := Tg.t (.c h1 (.c h2 (.c h3 (.c h4 (.c h5 .n)))))
/-! comprehensions -/
section
variable {α β γ δ : Type} {ss : Sp} {ml ml1 : ML} {g g1 : MG} {c c1 : MT} {el : ME} {vs vs1 : List Nat} {ex : α → D} {ey : β → D} {s1 : α → Sp} {xs : List α}
theorem lcL_of {Γ : En} {p : α → Option Bool} {f : α → Option β} (m : Mt ss Γ) (hg : ∀ x, Tg g (ex x) ss (s1 x)) (hc : ∀ x, Eo (s1 x) c (fun b => b) (p x)) (hf : ∀ x, Eo (s1 x) el ey (f x)) : ∀ (xs : List α) (ys : List β), tFilO p f xs = some ys → mLcL g c el Γ (xs.map ex) = some (ys.map ey)
  | [], ys, h => by cases h; rfl
  | x :: xs, ys, h => by
    obtain ⟨Γ1, e1, m1⟩ := hg x Γ m
    obtain ⟨b, e2, h⟩ := tBind_some (show tBind (p x) (fun b => bIf b (tBind (f x) fun y => tBind (tFilO p f xs) fun ys => some (y :: ys)) (tFilO p f xs)) = some ys from h)
    show (g (ex x) Γ).bind _ = _
    rw [e1]
    show (c Γ1).bind _ = _
    rw [hc x b e2 Γ1 m1]
    cases b with
    | false => exact lcL_of m hg hc hf xs ys h
    | true =>
      obtain ⟨y, e3, h⟩ := tBind_some (show tBind (f x) (fun y => tBind (tFilO p f xs) fun ys => some (y :: ys)) = some ys from h)
      obtain ⟨zs, e4, h⟩ := tBind_some h
      cases h
      show (el Γ1).bind _ = _
      rw [hf x y e3 Γ1 m1]
      show (mLcL g c el Γ (xs.map ex)).map _ = _
      rw [lcL_of m hg hc hf xs zs e4]; rfl
theorem filO_all {f : α → Option β} : ∀ xs : List α, tFilO (fun _ => some true) f xs = tAllO f xs
  | [] => rfl
  | x :: xs => by
    show tBind (f x) (fun y => tBind (tFilO (fun _ => some true) f xs) fun ys => some (y :: ys)) = tBind (f x) (fun y => tBind (tAllO f xs) fun ys => some (y :: ys))
    rw [filO_all xs]
theorem Eo.lcc {p : α → Option Bool} {f : α → Option β} (hl : Eg ss ml (xs.map ex)) (hg : ∀ x, Tg g (ex x) (wipeS ss vs) (s1 x)) (hc : ∀ x, Eo (s1 x) c (fun b => b) (p x)) (hf : ∀ x, Eo (s1 x) el ey (f x)) : Eo ss (mLc ml g c el vs) (eL ey) (tBind (tFilO p f xs) tLim) := fun z hz Γ m => by
  obtain ⟨ys, h1, h2⟩ := tBind_some hz
  obtain ⟨rfl, hl2⟩ := tLim_some h2
  exact mLc_of (hl Γ m) (lcL_of (m.wipe vs) hg hc hf xs _ h1) (by rw [List.length_map]; exact hl2)
theorem Eo.lcm {f : α → Option β} (hl : Eg ss ml (xs.map ex)) (hg : ∀ x, Tg g (ex x) (wipeS ss vs) (s1 x)) (hf : ∀ x, Eo (s1 x) el ey (f x)) : Eo ss (mLc ml g mYes el vs) (eL ey) (tBind (tAllO f xs) tLim) := by
  rw [← filO_all]
  exact Eo.lcc hl hg (fun x => Eo.ret (m := mYes) (e := fun b => b) (x := true) fun _ _ => rfl) hf
theorem lc2L_of {Γ : En} {ex1 : γ → D} {s2 : α → γ → Sp} {p : α → Option Bool} {l : α → Option (List γ)} {q : α → γ → Option Bool} {f : α → γ → Option β} (m : Mt ss Γ) (hg : ∀ x, Tg g (ex x) ss (s1 x)) (hc : ∀ x, Eo (s1 x) c (fun b => b) (p x)) (hl : ∀ x, Eo (s1 x) ml1 (List.map ex1) (l x))
    (hg1 : ∀ x y, Tg g1 (ex1 y) (wipeS (s1 x) vs1) (s2 x y)) (hc1 : ∀ x y, Eo (s2 x y) c1 (fun b => b) (q x y)) (hf : ∀ x y, Eo (s2 x y) el ey (f x y)) : ∀ (xs : List α) (ys : List β), tFlat p (fun x => tBind (l x) fun zs => tFilO (q x) (f x) zs) xs = some ys → mLc2L g c ml1 g1 c1 el vs1 Γ (xs.map ex) = some (ys.map ey)
  | [], ys, h => by cases h; rfl
  | x :: xs, ys, h => by
    obtain ⟨Γ1, e1, m1⟩ := hg x Γ m
    obtain ⟨b, e2, h⟩ := tBind_some (show tBind (p x) (fun b => bIf b (tBind (tBind (l x) fun zs => tFilO (q x) (f x) zs) fun y => tBind (tFlat p (fun x => tBind (l x) fun zs => tFilO (q x) (f x) zs) xs) fun ys => some (y ++ ys)) (tFlat p (fun x => tBind (l x) fun zs => tFilO (q x) (f x) zs) xs)) = some ys from h)
    show (g (ex x) Γ).bind _ = _
    rw [e1]
    show (c Γ1).bind _ = _
    rw [hc x b e2 Γ1 m1]
    cases b with
    | false => exact lc2L_of m hg hc hl hg1 hc1 hf xs ys h
    | true =>
      obtain ⟨y, e3, h⟩ := tBind_some (show tBind (tBind (l x) fun zs => tFilO (q x) (f x) zs) (fun y => tBind (tFlat p (fun x => tBind (l x) fun zs => tFilO (q x) (f x) zs) xs) fun ys => some (y ++ ys)) = some ys from h)
      obtain ⟨zs, e5, e6⟩ := tBind_some e3
      obtain ⟨ws, e4, h⟩ := tBind_some h
      cases h
      show (ml1 Γ1).bind _ = _
      rw [hl x zs e5 Γ1 m1]
      show (mLcL g1 c1 el (wipeE Γ1 vs1) (zs.map ex1)).bind _ = _
      rw [lcL_of (m1.wipe vs1) (hg1 x) (hc1 x) (hf x) zs y e6]
      show (mLc2L g c ml1 g1 c1 el vs1 Γ (xs.map ex)).map _ = _
      rw [lc2L_of m hg hc hl hg1 hc1 hf xs ws e4, List.map_append]; rfl
theorem Eo.lc2 {ex1 : γ → D} {s2 : α → γ → Sp} {p : α → Option Bool} {l : α → Option (List γ)} {q : α → γ → Option Bool} {f : α → γ → Option β} (hx : Eg ss ml (xs.map ex)) (hg : ∀ x, Tg g (ex x) (wipeS ss vs) (s1 x)) (hc : ∀ x, Eo (s1 x) c (fun b => b) (p x)) (hl : ∀ x, Eo (s1 x) ml1 (List.map ex1) (l x))
    (hg1 : ∀ x y, Tg g1 (ex1 y) (wipeS (s1 x) vs1) (s2 x y)) (hc1 : ∀ x y, Eo (s2 x y) c1 (fun b => b) (q x y)) (hf : ∀ x y, Eo (s2 x y) el ey (f x y)) : Eo ss (mLc2 ml g c ml1 g1 c1 el vs vs1) (eL ey) (tBind (tFlat p (fun x => tBind (l x) fun zs => tFilO (q x) (f x) zs) xs) tLim) := fun z hz Γ m => by
  obtain ⟨ys, h1, h2⟩ := tBind_some hz
  obtain ⟨rfl, hl2⟩ := tLim_some h2
  unfold mLc2
  rw [hx Γ m, Option.bind_some, lc2L_of (m.wipe vs) hg hc hl hg1 hc1 hf xs _ h1, Option.bind_some, if_pos (by rw [List.length_map]; exact hl2)]; rfl
theorem Eo.yes : Eo ss mYes (fun b : Bool => b) (some true) := Eo.ret (m := mYes) (e := fun b => b) (x := true) fun _ _ => rfl
end

/-! ### statements -/
def Post {σ τ ρ : Type} (N : σ → En → Prop) (L : τ → En → Prop) (e : ρ → D) : Res σ τ ρ → Fl → En → Prop
  | .nx s, fl, Γ => fl = .nx ∧ N s Γ
  | .rt r, fl, _ => fl = .rt (e r)
  | .bk s, fl, Γ => fl = .bk ∧ L s Γ
  | .ct s, fl, Γ => fl = .ct ∧ L s Γ
def St {σ τ ρ : Type} (ss : Sp) (m : MS) (t : Option (Res σ τ ρ)) (N : σ → En → Prop) (L : τ → En → Prop) (e : ρ → D) : Prop := ∀ r, t = some r → ∀ Γ, Mt ss Γ → ∃ fl Γ', m Γ = some (fl, Γ') ∧ Post N L e r fl Γ'
section
variable {σ σ' τ ρ α β : Type} {ss st : Sp} {a b m rest : MS} {N : σ → En → Prop} {J : σ' → En → Prop} {L : τ → En → Prop} {e : ρ → D}
theorem St.at (ss : Sp) {t : Option (Res σ τ ρ)} (h : St ss m t N L e) : St ss m t N L e := h
theorem St.bind {m0 : En → Option β} {e0 : α → β} {t0 : Option α} {k : α → Option (Res σ τ ρ)} (h : Eo ss m0 e0 t0) (hk : ∀ x, Eg ss m0 (e0 x) → St ss m (k x) N L e) : St ss m (tBind t0 k) N L e := fun r hr => by
  obtain ⟨x, h1, h2⟩ := tBind_some hr
  exact hk x (h x h1) r h2
theorem sSq_nil : sSq m sNx = m := by
  funext Γ
  unfold sSq sNx
  split
  · rename_i h; exact h.symm
  · rfl
theorem St.last {t : Option (Res σ τ ρ)} (h : St ss (sSq m sNx) t N L e) : St ss m t N L e := by rw [sSq_nil] at h; exact h
theorem St.nx {x : σ} (h : ∀ Γ, Mt ss Γ → N x Γ) : St ss sNx (some (.nx x)) N L e := fun r hr Γ mm => by cases hr; exact ⟨_, _, rfl, rfl, h Γ mm⟩
theorem St.ret {me : ME} {x : ρ} (h : Eg ss me (e x)) : St ss (sRt me) (some (.rt x)) N L e := fun r hr Γ mm => by
  cases hr
  exact ⟨_, _, sRt_of (h Γ mm), rfl⟩
theorem St.bk {x : τ} (h : ∀ Γ, Mt ss Γ → L x Γ) : St ss sBk (some (.bk x)) N L e := fun r hr Γ mm => by cases hr; exact ⟨_, _, rfl, rfl, h Γ mm⟩
theorem St.ct {x : τ} (h : ∀ Γ, Mt ss Γ → L x Γ) : St ss sCt (some (.ct x)) N L e := fun r hr Γ mm => by cases hr; exact ⟨_, _, rfl, rfl, h Γ mm⟩
/-- a block that ends elsewhere -/
theorem St.cut {t : Option (Res σ τ ρ)} (h : St ss a t (fun _ _ => False) L e) : St ss (sSq a b) t N L e := fun r hr Γ mm => by
  obtain ⟨fl, Γ1, h1, h2⟩ := h r hr Γ mm
  cases r with
  | nx s => exact h2.2.elim
  | rt v => cases h2; exact ⟨_, _, sSq_rt h1, rfl⟩
  | bk s => cases h2.1; exact ⟨.bk, Γ1, by unfold sSq; rw [h1], h2⟩
  | ct s => cases h2.1; exact ⟨.ct, Γ1, by unfold sSq; rw [h1], h2⟩
theorem St.sq {t : Option (Res σ' τ ρ)} {k : σ' → Option (Res σ τ ρ)} (h : St ss a t J L e) (hk : ∀ s r, k s = some r → ∀ Γ, J s Γ → ∃ fl Γ', b Γ = some (fl, Γ') ∧ Post N L e r fl Γ') : St ss (sSq a b) (tSq t k) N L e := fun r hr Γ mm => by
  obtain ⟨u, h1, h2⟩ := tBind_some hr
  obtain ⟨fl, Γ1, h3, h4⟩ := h u h1 Γ mm
  cases u with
  | nx s =>
    obtain ⟨rfl, h5⟩ := h4
    rw [sSq_nx h3]
    exact hk s r h2 Γ1 h5
  | rt v =>
    cases h4
    cases h2
    exact ⟨_, _, sSq_rt h3, rfl⟩
  | bk s =>
    obtain ⟨rfl, h5⟩ := h4
    cases h2
    exact ⟨.bk, Γ1, by unfold sSq; rw [h3], rfl, h5⟩
  | ct s =>
    obtain ⟨rfl, h5⟩ := h4
    cases h2
    exact ⟨.ct, Γ1, by unfold sSq; rw [h3], rfl, h5⟩
/-- a straight step -/
theorem St.step {t : Option (Res σ τ ρ)} (h : ∀ Γ, Mt ss Γ → ∃ Γ', a Γ = some (.nx, Γ') ∧ Mt st Γ') (k : St st b t N L e) : St ss (sSq a b) t N L e := fun r hr Γ mm => by
  obtain ⟨Γ1, h1, m1⟩ := h Γ mm
  rw [sSq_nx h1]
  exact k r hr Γ1 m1
theorem Eg.xv {me : ME} {d : D} (h : Eg ss me d) : Eg ss (xV me) (.val d) := fun Γ m => by unfold xV; rw [h Γ m]; rfl
theorem Eg.xo {me : ME} {d : D} (h : Eg ss me d) : Eg ss (xO me) (.own d) := fun Γ m => by unfold xO; rw [h Γ m]; rfl
theorem St.set {i : Nat} {mx : MX} {es : α → Slot} {x : α} {k : α → Option (Res σ τ ρ)} (h : Eg ss mx (es x)) (hk : ∀ y, St (setS ss i (some (es y))) b (k y) N L e) : St ss (sSq (sSet i mx) b) (tLet x k) N L e :=
  St.step (fun Γ m => ⟨_, by unfold sSet; rw [h Γ m]; rfl, m.set⟩) (hk x)
theorem St.setF {i : Nat} {me : ME} {es : α → D} {x : α} {k : α → Option (Res σ τ ρ)} (h : Eg ss me (es x)) (hk : ∀ y, St (setS ss i (some (.val (es y)))) b (k y) N L e) : St ss (sSq (sSetF i me) b) (tLet x k) N L e :=
  St.step (fun Γ m => ⟨_, by unfold sSetF; rw [h Γ m]; rfl, m.set⟩) (hk x)
theorem sAug_eq {i : Nat} {f : D → D → Option D} {me : ME} : sAug i f me = sSet i (xV (mBin f (mVar i) me)) := by
  funext Γ
  unfold sAug sSet xV mBin
  cases mVar i Γ with
  | none => rfl
  | some x =>
    cases me Γ with
    | none => rfl
    | some y => rw [Option.bind_some, Option.bind_some, Option.bind_some, Option.bind_some, Option.map_map]; rfl
theorem St.aug {i : Nat} {f : D → D → Option D} {me : ME} {t : Option (Res σ τ ρ)} (h : St ss (sSq (sSet i (xV (mBin f (mVar i) me))) b) t N L e) : St ss (sSq (sAug i f me) b) t N L e := by rw [sAug_eq]; exact h
theorem St.par {i j : Nat} {mx my : MX} {es : α → Slot} {et : β → Slot} {x : α} {y : β} {k : α → β → Option (Res σ τ ρ)} (h : Eg ss mx (es x)) (h2 : Eg ss my (et y)) (hk : ∀ x y, St (setS (setS ss i (some (es x))) j (some (et y))) b (k x y) N L e) : St ss (sSq (sPar i j mx my) b) (tLet x fun x => tLet y (k x)) N L e :=
  St.step (fun Γ m => ⟨_, by unfold sPar; rw [h Γ m, h2 Γ m]; rfl, m.set.set⟩) (hk x y)
theorem St.par3 {γ : Type} {i j l : Nat} {mx my mz : MX} {es : α → Slot} {et : β → Slot} {eu : γ → Slot} {x : α} {y : β} {z : γ} {k : α → β → γ → Option (Res σ τ ρ)} (h : Eg ss mx (es x)) (h2 : Eg ss my (et y)) (h3 : Eg ss mz (eu z)) (hk : ∀ x y z, St (setS (setS (setS ss i (some (es x))) j (some (et y))) l (some (eu z))) b (k x y z) N L e) : St ss (sSq (sPar3 i j l mx my mz) b) (tLet x fun x => tLet y fun y => tLet z (k x y)) N L e :=
  St.step (fun Γ m => ⟨_, by unfold sPar3; rw [h Γ m, h2 Γ m, h3 Γ m]; rfl, m.set.set.set⟩) (hk x y z)
theorem St.tg {g : MG} {me : ME} {es : α → D} {x : α} {s1 : α → Sp} {k : α → Option (Res σ τ ρ)} (h : Eg ss me (es x)) (hg : ∀ x, Tg g (es x) ss (s1 x)) (hk : ∀ x, St (s1 x) b (k x) N L e) : St ss (sSq (sTg g me) b) (tLet x k) N L e :=
  St.step (st := s1 x) (fun Γ m => by
    obtain ⟨Γ1, h1, m1⟩ := hg x Γ m
    exact ⟨Γ1, by unfold sTg; rw [h Γ m, Option.bind_some, h1]; rfl, m1⟩) (hk x)
theorem St.iff {c : MT} {x : Bool} {ta tb : Option (Res σ' τ ρ)} {S : σ' → Sp} {k : σ' → Option (Res σ τ ρ)} (hc : Eg ss c x) (ha : St ss a ta (fun s => Mt (S s)) L e) (hb : St ss b tb (fun s => Mt (S s)) L e) (hk : ∀ s, St (S s) rest (k s) N L e) : St ss (sSq (sIf c a b) rest) (tSq (bIf x ta tb) k) N L e :=
  St.sq (J := fun s => Mt (S s)) (fun r hr Γ mm => by
    cases x with
    | true => rw [sIf_t (hc Γ mm)]; exact ha r hr Γ mm
    | false => rw [sIf_f (hc Γ mm)]; exact hb r hr Γ mm) (fun s r hr Γ mm => hk s r hr Γ mm)
/-- the branch never falls through -/
theorem St.ift {c : MT} {x : Bool} {ta tr : Option (Res σ τ ρ)} (hc : Eg ss c x) (ha : St ss a ta (fun _ _ => False) L e) (hr : St ss (sSq b rest) tr N L e) : St ss (sSq (sIf c a b) rest) (bIf x ta tr) N L e := fun r h Γ mm => by
  cases x with
  | true =>
    obtain ⟨fl, Γ1, h1, h2⟩ := (St.cut (b := rest) (N := N) ha) r h Γ mm
    refine ⟨fl, Γ1, ?_, h2⟩
    unfold sSq at h1 ⊢
    rw [sIf_t (hc Γ mm)]; exact h1
  | false =>
    obtain ⟨fl, Γ1, h1, h2⟩ := hr r h Γ mm
    refine ⟨fl, Γ1, ?_, h2⟩
    unfold sSq at h1 ⊢
    rw [sIf_f (hc Γ mm)]; exact h1
theorem sSq_assoc {c : MS} : sSq (sSq a b) c = sSq a (sSq b c) := by
  funext Γ
  unfold sSq
  cases a Γ with
  | none => rfl
  | some p => obtain ⟨fl, Γ1⟩ := p; cases fl <;> rfl
theorem St.assoc {c : MS} {t : Option (Res σ τ ρ)} (h : St ss (sSq a (sSq b c)) t N L e) : St ss (sSq (sSq a b) c) t N L e := by rw [sSq_assoc]; exact h
/-- the rest behind each branch -/
theorem St.ifd {c : MT} {x : Bool} {ta tb : Option (Res σ τ ρ)} (hc : Eg ss c x) (ha : St ss (sSq a rest) ta N L e) (hb : St ss (sSq b rest) tb N L e) : St ss (sSq (sIf c a b) rest) (bIf x ta tb) N L e := fun r h Γ mm => by
  cases x with
  | true =>
    obtain ⟨fl, Γ1, h1, h2⟩ := ha r h Γ mm
    refine ⟨fl, Γ1, ?_, h2⟩
    unfold sSq at h1 ⊢
    rw [sIf_t (hc Γ mm)]; exact h1
  | false =>
    obtain ⟨fl, Γ1, h1, h2⟩ := hb r h Γ mm
    refine ⟨fl, Γ1, ?_, h2⟩
    unfold sSq at h1 ⊢
    rw [sIf_f (hc Γ mm)]; exact h1
theorem sSq_nx0 : sSq sNx m = m := by funext Γ; rfl
theorem St.skip {t : Option (Res σ τ ρ)} (h : St ss m t N L e) : St ss (sSq sNx m) t N L e := by rw [sSq_nx0]; exact h
theorem St.ifl {c : MT} {x : Bool} {ta tb : Option (Res σ τ ρ)} (hc : Eg ss c x) (ha : St ss a ta N L e) (hb : St ss b tb N L e) : St ss (sIf c a b) (bIf x ta tb) N L e := fun r h Γ mm => by
  cases x with
  | true => rw [sIf_t (hc Γ mm)]; exact ha r h Γ mm
  | false => rw [sIf_f (hc Γ mm)]; exact hb r h Γ mm
theorem for_of {g : MG} {ex : α → D} {S : σ' → Sp} {s1 : σ' → α → Sp} {f : σ' → α → Option (Res σ' σ' ρ)} (hg : ∀ s x, Tg g (ex x) (S s) (s1 s x)) (hb : ∀ s x, St (s1 s x) b (f s x) (fun s => Mt (S s)) (fun s => Mt (S s)) e) : ∀ (xs : List α) (s : σ') (r : Lp σ' ρ), yFor f xs s = some r → ∀ Γ, Mt (S s) Γ →
    ∃ fl Γ', mFor g b (xs.map ex) Γ = some (fl, Γ') ∧ Post (τ := Empty) (fun s => Mt (S s)) (fun _ _ => False) e (match r with | .go s => .nx s | .out r => .rt r) fl Γ'
  | [], s, r, h, Γ, mm => by cases h; exact ⟨.nx, Γ, rfl, rfl, mm⟩
  | x :: xs, s, r, h, Γ, mm => by
    obtain ⟨u, h1, h2⟩ := tBind_some (show tBind (f s x) (fun r => Res.rec (motive := fun _ => Option (Lp σ' ρ)) (yFor f xs) (fun r => some (.out r)) (fun s => some (.go s)) (yFor f xs) r) = some r from h)
    obtain ⟨Γ1, e1, m1⟩ := hg s x Γ mm
    obtain ⟨fl, Γ2, e2, p2⟩ := hb s x u h1 Γ1 m1
    have e3 : (g (ex x) Γ).bind b = some (fl, Γ2) := by rw [e1]; exact e2
    cases u with
    | nx s' =>
      obtain ⟨rfl, m2⟩ := p2
      rw [List.map_cons, mFor_nx e3]
      exact for_of hg hb xs s' r h2 Γ2 m2
    | ct s' =>
      obtain ⟨rfl, m2⟩ := p2
      rw [List.map_cons, mFor_ct e3]
      exact for_of hg hb xs s' r h2 Γ2 m2
    | rt v =>
      cases p2
      cases h2
      exact ⟨_, _, by rw [List.map_cons, mFor_rt e3], rfl⟩
    | bk s' =>
      obtain ⟨rfl, m2⟩ := p2
      cases h2
      exact ⟨.nx, Γ2, by rw [List.map_cons, mFor_bk e3], rfl, m2⟩
theorem St.lp {t : Option (Lp σ' ρ)} {S : σ' → Sp} {k : σ' → Option (Res σ τ ρ)} (h : ∀ r, t = some r → ∀ Γ, Mt ss Γ → ∃ fl Γ', a Γ = some (fl, Γ') ∧ Post (τ := Empty) (fun s => Mt (S s)) (fun _ _ => False) e (match r with | .go s => .nx s | .out r => .rt r) fl Γ') (hk : ∀ s, St (S s) rest (k s) N L e) : St ss (sSq a rest) (tLp t k) N L e := fun r hr Γ mm => by
  obtain ⟨u, h1, h2⟩ := tBind_some hr
  obtain ⟨fl, Γ1, h3, h4⟩ := h u h1 Γ mm
  cases u with
  | go s =>
    obtain ⟨rfl, h5⟩ := h4
    rw [sSq_nx h3]
    exact hk s r h2 Γ1 h5
  | out v =>
    cases h4
    cases h2
    exact ⟨_, _, sSq_rt h3, rfl⟩
theorem St.for {ml : ML} {g : MG} {ex : α → D} {xs : List α} {S : σ' → Sp} {s1 : σ' → α → Sp} {f : σ' → α → Option (Res σ' σ' ρ)} {s0 : σ'} {k : σ' → Option (Res σ τ ρ)} (hl : Eg ss ml (xs.map ex)) (hi : Sub ss (S s0)) (hg : ∀ s x, Tg g (ex x) (S s) (s1 s x)) (hb : ∀ s x, St (s1 s x) b (f s x) (fun s => Mt (S s)) (fun s => Mt (S s)) e) (hk : ∀ s, St (S s) rest (k s) N L e) :
    St ss (sSq (sFor ml g b) rest) (tLp (yFor f xs s0) k) N L e :=
  St.lp (fun r hr Γ mm => by rw [sFor_of (hl Γ mm)]; exact for_of hg hb xs s0 r hr Γ (mm.sub hi)) hk
theorem wh_of {c : MT} {S : σ' → Sp} {tc : σ' → Option Bool} {f : σ' → Option (Res σ' σ' ρ)} (hc : ∀ s, Eo (S s) c (fun b => b) (tc s)) (hb : ∀ s, St (S s) b (f s) (fun s => Mt (S s)) (fun s => Mt (S s)) e) : ∀ (n : Nat) (s : σ') (r : Lp σ' ρ), tWh tc f n s = some r → ∀ Γ, Mt (S s) Γ →
    ∃ fl Γ', mWh c b n Γ = some (fl, Γ') ∧ Post (τ := Empty) (fun s => Mt (S s)) (fun _ _ => False) e (match r with | .go s => .nx s | .out r => .rt r) fl Γ'
  | 0, s, r, h, Γ, mm => nomatch h
  | n + 1, s, r, h, Γ, mm => by
    obtain ⟨x, h1, h2⟩ := tBind_some (show tBind (tc s) (fun b => bIf b (tBind (f s) fun r => Res.rec (motive := fun _ => Option (Lp σ' ρ)) (tWh tc f n) (fun r => some (.out r)) (fun s => some (.go s)) (tWh tc f n) r) (some (.go s))) = some r from h)
    have e0 := hc s x h1 Γ mm
    cases x with
    | false =>
      cases h2
      exact ⟨.nx, Γ, by show (c Γ).bind _ = _; rw [e0]; rfl, rfl, mm⟩
    | true =>
      obtain ⟨u, h3, h4⟩ := tBind_some (show tBind (f s) (fun r => Res.rec (motive := fun _ => Option (Lp σ' ρ)) (tWh tc f n) (fun r => some (.out r)) (fun s => some (.go s)) (tWh tc f n) r) = some r from h2)
      obtain ⟨fl, Γ2, e2, p2⟩ := hb s u h3 Γ mm
      have step : mWh c b (n + 1) Γ = (match b Γ with | some (.nx, Γ1) => mWh c b n Γ1 | some (.ct, Γ1) => mWh c b n Γ1 | some (.bk, Γ1) => some (.nx, Γ1) | r => r) := by
        show (c Γ).bind _ = _
        rw [e0]; rfl
      rw [step, e2]
      cases u with
      | nx s' => obtain ⟨rfl, m2⟩ := p2; exact wh_of hc hb n s' r h4 Γ2 m2
      | ct s' => obtain ⟨rfl, m2⟩ := p2; exact wh_of hc hb n s' r h4 Γ2 m2
      | rt v => cases p2; cases h4; exact ⟨_, _, rfl, rfl⟩
      | bk s' => obtain ⟨rfl, m2⟩ := p2; cases h4; exact ⟨.nx, Γ2, rfl, rfl, m2⟩
theorem St.wh {c : MT} {n : Nat} {S : σ' → Sp} {tc : σ' → Option Bool} {f : σ' → Option (Res σ' σ' ρ)} {s0 : σ'} {k : σ' → Option (Res σ τ ρ)} (hi : Sub ss (S s0)) (hc : ∀ s, Eo (S s) c (fun b => b) (tc s)) (hb : ∀ s, St (S s) b (f s) (fun s => Mt (S s)) (fun s => Mt (S s)) e) (hk : ∀ s, St (S s) rest (k s) N L e) :
    St ss (sSq (mWh c b n) rest) (tLp (tWh tc f n s0) k) N L e :=
  St.lp (fun r hr Γ mm => wh_of hc hb n s0 r hr Γ (mm.sub hi)) hk
theorem tApp_some {xs ys : List α} {x : α} (h : tApp xs x = some ys) : ys = xs ++ [x] ∧ xs.length < LIM := by
  obtain ⟨rfl, c⟩ := tLim_some h
  rw [tCat_eq] at c ⊢
  rw [List.length_append, List.length_singleton] at c
  exact ⟨rfl, c⟩
theorem St.app {i : Nat} {me : ME} {e0 : α → D} {xs : List α} {x : α} {k : List α → Option (Res σ τ ρ)} (hi : nthS ss i = some (.own (eL e0 xs))) (h : Eg ss me (e0 x)) (hk : ∀ y, St (setS ss i (some (.own (eL e0 y)))) b (k y) N L e) : St ss (sSq (sApp i me) b) (tBind (tApp xs x) k) N L e := fun r hr Γ mm => by
  obtain ⟨y, h1, h2⟩ := tBind_some hr
  obtain ⟨rfl, c⟩ := tApp_some h1
  have e1 : sApp i me Γ = some (.nx, Γ.set i (.own (eL e0 (xs ++ [x])))) := by
    have := sApp_of (mm.get hi) (h Γ mm) (by rw [List.length_map]; exact c)
    rw [this]; unfold eL; rw [List.map_append]; rfl
  rw [sSq_nx e1]
  exact hk _ r h2 _ mm.set
theorem St.ext {i : Nat} {me : ME} {e0 : α → D} {xs ys : List α} {k : List α → Option (Res σ τ ρ)} (hi : nthS ss i = some (.own (eL e0 xs))) (h : Eg ss me (eL e0 ys)) (hk : ∀ y, St (setS ss i (some (.own (eL e0 y)))) b (k y) N L e) : St ss (sSq (sExt i me) b) (tBind (tLim (tCat xs ys)) k) N L e := fun r hr Γ mm => by
  obtain ⟨y, h1, h2⟩ := tBind_some hr
  obtain ⟨rfl, c⟩ := tLim_some h1
  rw [tCat_eq] at c h2
  have e1 : sExt i me Γ = some (.nx, Γ.set i (.own (eL e0 (xs ++ ys)))) := by
    unfold sExt ownL
    rw [mm.get hi, h Γ mm]
    show (if (xs.map e0).length + (ys.map e0).length ≤ LIM then _ else _) = _
    rw [List.length_append] at c
    rw [List.length_map, List.length_map, if_pos c]
    unfold eL; rw [List.map_append]
  rw [sSq_nx e1]
  exact hk _ r h2 _ mm.set
theorem tSet_some {xs ys : List α} {n : Int} {x : α} (h : tSet xs n x = some ys) : ∃ j, ixN xs.length n = some j ∧ ys = xs.set j x := by
  obtain ⟨j, h1, h2⟩ := tBind_some h
  cases h2
  rw [tIxN_eq, tLenN_eq] at h1
  exact ⟨j, h1, tSetN_eq _ _ _⟩
theorem St.setIx {i : Nat} {mk me : ME} {e0 : α → D} {xs : List α} {n : Int} {x : α} {k : List α → Option (Res σ τ ρ)} (hi : nthS ss i = some (.own (eL e0 xs))) (hn : Eg ss mk (eI n)) (h : Eg ss me (e0 x)) (hk : ∀ y, St (setS ss i (some (.own (eL e0 y)))) b (k y) N L e) : St ss (sSq (sSetIx i mk me) b) (tBind (tSet xs n x) k) N L e := fun r hr Γ mm => by
  obtain ⟨y, h1, h2⟩ := tBind_some hr
  obtain ⟨j, c, rfl⟩ := tSet_some h1
  have e1 : sSetIx i mk me Γ = some (.nx, Γ.set i (.own (eL e0 (xs.set j x)))) := by
    unfold sSetIx ownL
    rw [mm.get hi, h Γ mm, hn Γ mm]
    show ((ixN (xs.map e0).length n).map fun j => (Fl.nx, Γ.set i (.own (.lst ((xs.map e0).set j (e0 x)))))) = _
    rw [List.length_map, c, Option.map_some, ← List.map_set]; rfl
  rw [sSq_nx e1]
  exact hk _ r h2 _ mm.set
theorem St.augIx {i : Nat} {mk me : ME} {f : D → D → Option D} {e0 : α → D} {xs : List α} {n : Int} {d : D} {g : α → Option α} {k : List α → Option (Res σ τ ρ)} (hi : nthS ss i = some (.own (eL e0 xs))) (hn : Eg ss mk (eI n)) (h : Eg ss me d) (hg : ∀ x z, g x = some z → f (e0 x) d = some (e0 z)) (hk : ∀ y, St (setS ss i (some (.own (eL e0 y)))) b (k y) N L e) :
    St ss (sSq (sAugIx i mk f me) b) (tBind (tIx xs n) fun x => tBind (g x) fun z => tBind (tSet xs n z) k) N L e := fun r hr Γ mm => by
  obtain ⟨x, h0, hr⟩ := tBind_some hr
  obtain ⟨z, h3, hr⟩ := tBind_some hr
  obtain ⟨y, h1, h2⟩ := tBind_some hr
  obtain ⟨j, c, rfl⟩ := tSet_some h1
  rw [tIx_eq] at h0
  have e1 : sAugIx i mk f me Γ = some (.nx, Γ.set i (.own (eL e0 (xs.set j z)))) := by
    unfold sAugIx ownL
    rw [mm.get hi, h Γ mm, hn Γ mm]
    show (ixN (xs.map e0).length n).bind (fun j => ((xs.map e0)[j]?).bind fun x => (some d).bind fun y => (f x y).map fun z => (Fl.nx, Γ.set i (.own (.lst ((xs.map e0).set j z))))) = _
    unfold atI at h0
    rw [c, Option.bind_some] at h0
    rw [List.length_map, c, Option.bind_some, List.getElem?_map, h0, Option.map_some, Option.bind_some, Option.bind_some, hg x z h3, Option.map_some, ← List.map_set]; rfl
  rw [sSq_nx e1]
  exact hk _ r h2 _ mm.set
theorem frz_own {i : Nat} {d : D} {Γ : En} (h : Γ[i]? = some (.own d)) : frz1 i Γ = Γ.set i (.val d) := by unfold frz1; rw [h]
theorem frz_val {i : Nat} {d : D} {Γ : En} (h : Γ[i]? = some (.val d)) : frz1 i Γ = Γ := by unfold frz1; rw [h]
theorem St.frz {i : Nat} {d : D} {t : Option (Res σ τ ρ)} (hi : nthS ss i = some (.own d)) (h : St (setS ss i (some (.val d))) (sSq a b) t N L e) : St ss (sSq (sFrz i a) b) t N L e := fun r hr Γ mm => by
  obtain ⟨fl, Γ1, h1, h2⟩ := h r hr (Γ.set i (.val d)) mm.set
  refine ⟨fl, Γ1, ?_, h2⟩
  unfold sSq sFrz at *
  rw [frz_own (mm.get hi)]; exact h1
theorem St.frz0 {i : Nat} {d : D} {t : Option (Res σ τ ρ)} (hi : nthS ss i = some (.val d)) (h : St ss (sSq a b) t N L e) : St ss (sSq (sFrz i a) b) t N L e := fun r hr Γ mm => by
  obtain ⟨fl, Γ1, h1, h2⟩ := h r hr Γ mm
  refine ⟨fl, Γ1, ?_, h2⟩
  unfold sSq sFrz at *
  rw [frz_val (mm.get hi)]; exact h1
end
/-! a def -/
theorem fn_t {ρ : Type} {e : ρ → D} {np nn : Nat} {ds : List D} {ss : Sp} {b : MS} {t : Option (Res Unit Unit ρ)} {r : ρ} (hr : tRun t = some r) (hl : ds.length = np) (hm : Mt ss (ds.map Slot.val ++ List.replicate (nn - np) Slot.emp)) (h : St ss b t (fun _ _ => False) (fun _ _ => False) e) : runFn np nn b ds = some (e r) := by
  obtain ⟨u, h1, h2⟩ := tBind_some hr
  obtain ⟨fl, Γ1, e1, p⟩ := h u h1 _ hm
  unfold runFn
  rw [if_pos hl, e1]
  cases u with
  | rt v => cases p; cases h2; rfl
  | nx s => exact p.2.elim
  | bk s => exact p.2.elim
  | ct s => exact p.2.elim
theorem fn_tN {ρ : Type} {e : ρ → D} {np nn : Nat} {ds : List D} {ss : Sp} {b : MS} {t : Option (Res Unit Unit (Option ρ))} {r : Option ρ} (hr : tRunN t = some r) (hl : ds.length = np) (hm : Mt ss (ds.map Slot.val ++ List.replicate (nn - np) Slot.emp)) (h : St ss b t (fun _ _ => True) (fun _ _ => False) (eO e)) : runFn np nn b ds = some (eO e r) := by
  obtain ⟨u, h1, h2⟩ := tBind_some hr
  obtain ⟨fl, Γ1, e1, p⟩ := h u h1 _ hm
  unfold runFn
  rw [if_pos hl, e1]
  cases u with
  | rt v => cases p; cases h2; rfl
  | nx s => cases p.1; cases h2; rfl
  | bk s => exact p.2.elim
  | ct s => exact p.2.elim
end SK

set_option Elab.async false
set_option linter.all false
set_option maxRecDepth 100000
set_option maxHeartbeats 4000000
set_option autoImplicit false
namespace SK
open PySem PySem.Spec PyProof.Rows L2

/-! ### the law's own comparison, of typed values -/
structure LkT {α : Type} (n : Nat) (e : α → D) (eq : α → α → Bool) (ok : α → Bool) : Prop where
  lk : ∀ x y, ok y = true → m__law_like n [e x, e y] = some (.bl (eq x y))
structure LkN {α : Type} (n : Nat) (e : α → D) : Prop where
  no : ∀ y, m__law_like n [.non, e y] = some (.bl false)
  nn : ∀ x, (e x).isN = false
def okY {α : Type} (_ : α) : Bool := true
theorem lkI {n : Nat} : LkT (n + 1) eI iEq okY := ⟨fun x y _ => by
  show some (D.bl (x == y)) = _
  rw [iEq_beq]⟩
theorem lnI {n : Nat} : LkN (n + 1) eI := ⟨fun _ => rfl, fun _ => rfl⟩
theorem lkB {n : Nat} : LkT (n + 1) eB bEq okY := ⟨fun x y _ => by cases x <;> cases y <;> rfl⟩
theorem lnB {n : Nat} : LkN (n + 1) eB := ⟨fun y => by cases y <;> rfl, fun _ => rfl⟩
theorem like_ne {r : List D → Option D} {xs ys : List D} (h : xs.length ≠ ys.length) : runFn 2 3 (b__law_like r) [.tup xs, .tup ys] = some (.bl false) := by
  refine run_rt (Γ1 := [.val (.tup xs), .val (.tup ys), .emp]) rfl ?_
  unfold b__law_like
  show sSq _ _ [.val (.tup xs), .val (.tup ys), .emp] = _
  rw [sSq_nx (Γ1 := [.val (.tup xs), .val (.tup ys), .emp]) rfl, sSq_nx (Γ1 := [.val (.tup xs), .val (.tup ys), .emp]) rfl]
  refine sSq_rt ?_
  rw [sIf_t rfl]
  refine sSq_rt ?_
  rw [sIf_t]
  · rfl
  · show (some (!((xs.length : Int) == (ys.length : Int)))) = _
    rw [show ((xs.length : Int) == (ys.length : Int)) = false from beq_eq_false_iff_ne.mpr (by omega)]; rfl
theorem like_no {r : List D → Option D} {ys : List D} : runFn 2 3 (b__law_like r) [.non, .tup ys] = some (.bl false) := rfl
/-- the lists' items alike -/
noncomputable def okT {α : Type} (ok : α → Bool) (ys : List α) : Bool := bAnd (Nat.ble (tLenN ys) 1000000) (List.rec (motive := fun _ => Bool) true (fun y _ ih => bAnd (ok y) ih) ys)
/-- of items that are always fit -/
noncomputable def okL1 {α : Type} (ys : List α) : Bool := Nat.ble (tLenN ys) 1000000
noncomputable def zEq {α : Type} (eq : α → α → Bool) (xs ys : List α) : List Bool := (xs.zip ys).map fun p => eq p.1 p.2
theorem zEq_lEq {α : Type} {eq : α → α → Bool} : ∀ (xs ys : List α), xs.length = ys.length → (zEq eq xs ys).all id = lEq eq xs ys
  | [], [], _ => rfl
  | [], _ :: _, h => nomatch h
  | _ :: _, [], h => nomatch h
  | x :: xs, y :: ys, h => by
    show (eq x y && (zEq eq xs ys).all id) = bAnd (eq x y) (lEq eq xs ys)
    rw [zEq_lEq xs ys (Nat.succ.inj h), bAnd_eq]
theorem lEq_len {α : Type} {eq : α → α → Bool} : ∀ (xs ys : List α), xs.length ≠ ys.length → lEq eq xs ys = false
  | [], [], h => absurd rfl h
  | [], _ :: _, _ => rfl
  | _ :: _, [], _ => rfl
  | x :: xs, y :: ys, h => by
    show bAnd (eq x y) (lEq eq xs ys) = false
    rw [lEq_len xs ys (fun z => h (congrArg (· + 1) z)), bAnd_eq, Bool.and_false]
theorem lkT_of {α : Type} {n : Nat} {e : α → D} {eq : α → α → Bool} {ok : α → Bool} (h : LkT n e eq ok) (xs ys : List α) (hz : ys.length ≤ 1000000) (ho : ∀ y ∈ ys, ok y = true) : m__law_like (n + 1) [eT e xs, eT e ys] = some (.bl (lEq eq xs ys)) := by
  by_cases hl : xs.length = ys.length
  · have := like_tup (r := m__law_like n) (xs := xs.map e) (ys := ys.map e) (by rw [List.length_map, List.length_map, hl]) (by rw [List.length_map]; exact hz) (zEq eq xs ys) (by unfold zEq; rw [List.length_map, List.length_zip, List.length_map, hl, Nat.min_self]) (fun i x y b h1 h2 h3 => by
      rw [List.getElem?_map] at h1 h2
      obtain ⟨x', g1, rfl⟩ := Option.map_eq_some_iff.mp h1
      obtain ⟨y', g2, rfl⟩ := Option.map_eq_some_iff.mp h2
      unfold zEq at h3
      rw [List.getElem?_map] at h3
      obtain ⟨p, g3, rfl⟩ := Option.map_eq_some_iff.mp h3
      obtain ⟨g4, g5⟩ := List.getElem?_zip_eq_some.mp g3
      rw [g1] at g4
      rw [g2] at g5
      cases g4
      cases g5
      exact h.lk _ _ (ho _ (List.mem_of_getElem? g2)))
    rw [zEq_lEq xs ys hl] at this
    exact this
  · rw [lEq_len xs ys hl]
    exact like_ne (by rw [List.length_map, List.length_map]; exact hl)
theorem lkT {α : Type} {n : Nat} {e : α → D} {eq : α → α → Bool} {ok : α → Bool} (h : LkT n e eq ok) : LkT (n + 1) (eT e) (lEq eq) (okT ok) := ⟨fun xs ys ho => by
  unfold okT at ho
  rw [bAnd_eq, Bool.and_eq_true] at ho
  refine lkT_of h xs ys (by have := Nat.le_of_ble_eq_true ho.1; rw [tLenN_eq] at this; exact this) ?_
  have := ho.2
  clear ho
  induction ys with
  | nil => intro y hy; exact absurd hy List.not_mem_nil
  | cons z ys ih =>
    have h1 : bAnd (ok z) (List.rec (motive := fun _ => Bool) true (fun y _ ih => bAnd (ok y) ih) ys) = true := this
    rw [bAnd_eq, Bool.and_eq_true] at h1
    intro y hy
    rcases List.mem_cons.mp hy with rfl | hy
    · exact h1.1
    · exact ih h1.2 y hy⟩
theorem lnT {α : Type} {n : Nat} {e : α → D} : LkN (n + 1) (eT e) := ⟨fun _ => like_no, fun _ => rfl⟩
theorem lnP2 {α β : Type} {n : Nat} {e : α → D} {f : β → D} : LkN (n + 1) (eP2 e f) := ⟨fun _ => like_no, fun _ => rfl⟩
theorem lnP3 {α β γ : Type} {n : Nat} {e : α → D} {f : β → D} {g : γ → D} : LkN (n + 1) (eP3 e f g) := ⟨fun _ => like_no, fun _ => rfl⟩
theorem lkT1 {α : Type} {n : Nat} {e : α → D} {eq : α → α → Bool} (h : LkT n e eq okY) : LkT (n + 1) (eT e) (lEq eq) okL1 := ⟨fun xs ys ho => by
  refine lkT_of h xs ys (by have := Nat.le_of_ble_eq_true ho; rw [tLenN_eq] at this; exact this) (fun _ _ => rfl)⟩
noncomputable def okP2 {α β : Type} (f : α → Bool) (g : β → Bool) (p : α × β) : Bool := bAnd (f p.1) (g p.2)
noncomputable def okP3 {α β γ : Type} (f : α → Bool) (g : β → Bool) (h : γ → Bool) (p : α × β × γ) : Bool := bAnd (f p.1) (bAnd (g p.2.1) (h p.2.2))
theorem lkP2' {α β : Type} {n : Nat} {e : α → D} {f : β → D} {eq : α → α → Bool} {fq : β → β → Bool} {ok : α → Bool} {fk : β → Bool} (h : LkT n e eq ok) (k : LkT n f fq fk) (p q : α × β) (h1 : ok q.1 = true) (h2 : fk q.2 = true) : m__law_like (n + 1) [eP2 e f p, eP2 e f q] = some (.bl (pEq eq fq p q)) := by
  have := like_tup (r := m__law_like n) (xs := [e p.1, f p.2]) (ys := [e q.1, f q.2]) rfl (show (_ : Nat) ≤ 1000000 from Nat.le_of_ble_eq_true rfl) [eq p.1 q.1, fq p.2 q.2] rfl (fun i x y b e1 e2 e3 => by
    match i with
    | 0 => cases e1; cases e2; cases e3; exact h.lk _ _ h1
    | 1 => cases e1; cases e2; cases e3; exact k.lk _ _ h2
    | i + 2 => cases e1)
  rw [show List.all [eq p.1 q.1, fq p.2 q.2] id = pEq eq fq p q by unfold pEq; rw [bAnd_eq]; simp only [List.all_cons, List.all_nil, Bool.and_true, id]] at this
  exact this
theorem lkP2 {α β : Type} {n : Nat} {e : α → D} {f : β → D} {eq : α → α → Bool} {fq : β → β → Bool} {ok : α → Bool} {fk : β → Bool} (h : LkT n e eq ok) (k : LkT n f fq fk) : LkT (n + 1) (eP2 e f) (pEq eq fq) (okP2 ok fk) := ⟨fun p q ho => by
  unfold okP2 at ho
  rw [bAnd_eq, Bool.and_eq_true] at ho
  exact lkP2' h k p q ho.1 ho.2⟩
theorem lkP21 {α β : Type} {n : Nat} {e : α → D} {f : β → D} {eq : α → α → Bool} {fq : β → β → Bool} (h : LkT n e eq okY) (k : LkT n f fq okY) : LkT (n + 1) (eP2 e f) (pEq eq fq) okY := ⟨fun p q _ => lkP2' h k p q rfl rfl⟩
theorem lkP3' {α β γ : Type} {n : Nat} {e : α → D} {f : β → D} {g : γ → D} {eq : α → α → Bool} {fq : β → β → Bool} {gq : γ → γ → Bool} {ok : α → Bool} {fk : β → Bool} {gk : γ → Bool} (h : LkT n e eq ok) (k : LkT n f fq fk) (j : LkT n g gq gk) (p q : α × β × γ) (h1 : ok q.1 = true) (h2 : fk q.2.1 = true) (h3 : gk q.2.2 = true) : m__law_like (n + 1) [eP3 e f g p, eP3 e f g q] = some (.bl (p3Eq eq fq gq p q)) := by
  have := like_tup (r := m__law_like n) (xs := [e p.1, f p.2.1, g p.2.2]) (ys := [e q.1, f q.2.1, g q.2.2]) rfl (show (_ : Nat) ≤ 1000000 from Nat.le_of_ble_eq_true rfl) [eq p.1 q.1, fq p.2.1 q.2.1, gq p.2.2 q.2.2] rfl (fun i x y b e1 e2 e3 => by
    match i with
    | 0 => cases e1; cases e2; cases e3; exact h.lk _ _ h1
    | 1 => cases e1; cases e2; cases e3; exact k.lk _ _ h2
    | 2 => cases e1; cases e2; cases e3; exact j.lk _ _ h3
    | i + 3 => cases e1)
  rw [show List.all [eq p.1 q.1, fq p.2.1 q.2.1, gq p.2.2 q.2.2] id = p3Eq eq fq gq p q by unfold p3Eq; simp only [bAnd_eq, List.all_cons, List.all_nil, Bool.and_true, id]] at this
  exact this
theorem lkP3 {α β γ : Type} {n : Nat} {e : α → D} {f : β → D} {g : γ → D} {eq : α → α → Bool} {fq : β → β → Bool} {gq : γ → γ → Bool} {ok : α → Bool} {fk : β → Bool} {gk : γ → Bool} (h : LkT n e eq ok) (k : LkT n f fq fk) (j : LkT n g gq gk) : LkT (n + 1) (eP3 e f g) (p3Eq eq fq gq) (okP3 ok fk gk) := ⟨fun p q ho => by
  unfold okP3 at ho
  rw [bAnd_eq, bAnd_eq, Bool.and_eq_true, Bool.and_eq_true] at ho
  exact lkP3' h k j p q ho.1 ho.2.1 ho.2.2⟩
theorem lkP31 {α β γ : Type} {n : Nat} {e : α → D} {f : β → D} {g : γ → D} {eq : α → α → Bool} {fq : β → β → Bool} {gq : γ → γ → Bool} (h : LkT n e eq okY) (k : LkT n f fq okY) (j : LkT n g gq okY) : LkT (n + 1) (eP3 e f g) (p3Eq eq fq gq) okY := ⟨fun p q _ => lkP3' h k j p q rfl rfl rfl⟩
theorem like_N {r : List D → Option D} {x : D} : runFn 2 3 (b__law_like r) [x, .non] = some (.bl x.isN) := by
  refine run_rt (Γ1 := [.val x, .val .non, .emp]) rfl ?_
  unfold b__law_like
  show sSq _ _ [.val x, .val .non, .emp] = _
  refine sSq_rt ?_
  rw [sIf_t rfl]
  refine sRt_of ?_
  refine (mBin_of (x := x) (y := .non) rfl rfl).trans ?_
  unfold dIs; rfl
noncomputable def okO {α : Type} (ok : α → Bool) (y : Option α) : Bool := Option.rec (motive := fun _ => Bool) true ok y
theorem lkO' {α : Type} {n : Nat} {e : α → D} {eq : α → α → Bool} {ok : α → Bool} (h : LkT (n + 1) e eq ok) (k : LkN (n + 1) e) (x y : Option α) (ho : okO ok y = true) : m__law_like (n + 1) [eO e x, eO e y] = some (.bl (oEq eq x y)) := by
  cases y with
  | none =>
    cases x with
    | none => rfl
    | some x =>
      show runFn 2 3 (b__law_like (m__law_like n)) [e x, .non] = _
      rw [like_N, k.nn]; rfl
  | some y =>
    cases x with
    | none => exact k.no y
    | some x => exact h.lk x y ho
theorem lkO {α : Type} {n : Nat} {e : α → D} {eq : α → α → Bool} {ok : α → Bool} (h : LkT (n + 1) e eq ok) (k : LkN (n + 1) e) : LkT (n + 1) (eO e) (oEq eq) (okO ok) := ⟨fun x y ho => lkO' h k x y ho⟩
theorem lkO1 {α : Type} {n : Nat} {e : α → D} {eq : α → α → Bool} (h : LkT (n + 1) e eq okY) (k : LkN (n + 1) e) : LkT (n + 1) (eO e) (oEq eq) okY := ⟨fun x y _ => lkO' h k x y (by cases y <;> rfl)⟩
noncomputable def tLike {α : Type} (eq : α → α → Bool) (ok : α → Bool) (x y : α) : Option Bool := bIf (ok y) (some (eq x y)) none
section
variable {α : Type} {ss : Sp} {a b : ME} {e : α → D} {eq : α → α → Bool} {ok : α → Bool}
theorem Eo.like {x y : α} (h : LkT 10 e eq ok) (ha : Eg ss a (e x)) (hb : Eg ss b (e y)) : Eo ss (mCall (m__law_like 10) (mCons a (mCons b mNil))) eB (tLike eq ok x y) := Eo.call (fun r hr => by
  obtain ⟨c, hr⟩ := bIf_some hr
  cases hr
  exact h.lk x y c) (.ac ha (.ac hb .a0))
end
/-! _law_is_int of typed values; isinstance -/
section
variable {α β γ : Type} {ss : Sp} {a : ME}
theorem Eg.isIntI {i : Int} (h : Eg ss a (eI i)) : Eg ss (mCall m__law_is_int (mCons a mNil)) (eB true) := Eg.call rfl (.ac h .a0)
theorem Eg.isIntO {x : Option Int} (h : Eg ss a (eO eI x)) : Eg ss (mCall m__law_is_int (mCons a mNil)) (eB (bNot (oIsN x))) := Eg.call (by cases x <;> rfl) (.ac h .a0)
theorem Eg.isiT {t : Ty} {d : D} {b : Bool} (hi : isi t d = some b) (h : Eg ss a d) : Eg ss (mUn (dIsi t) a) (eB b) := Eg.un h (by unfold dIsi; rw [hi]; rfl)
theorem Eg.isiO {t : Ty} {e : α → D} {x : Option α} (hi : ∀ x, isi t (e x) = some true) (hn : isi t .non = some false) (h : Eg ss a (eO e x)) : Eg ss (mUn (dIsi t) a) (eB (bNot (oIsN x))) := Eg.un h (by
  unfold dIsi
  cases x with
  | none => rw [show isi t (eO e none) = some false from hn]; rfl
  | some x => rw [show isi t (eO e (some x)) = some true from hi x]; rfl)
end
/-! the tail: the law -/
theorem law_t {m : List D → Option D} {np : Nat} (h : ∀ ns : List Int, m [.scr ns] = some (eB true)) : ∀ ns : List Int, ns.length ≤ 63 → m [.scr ns] = some (.bl true) := fun ns _ => h ns
/-- row = _law_row(script, many), then the rest -/
theorem row_t {many : Nat} {nn : Nat} {rest : MS} {ns : List Int} {t : List Int → Option (Res Unit Unit Bool)} (hm : many ≤ 1000)
    (hr : ∀ row, St (none :: some (.val (eL eI row)) :: List.replicate nn none) rest (t row) (fun _ _ => False) (fun _ _ => False) eB)
    (ht : ∀ row : List Int, row.length = many → (∀ x ∈ row, 0 ≤ x ∧ x < 1000003) → tRun (t row) = some true) :
    runFn 1 (nn + 2) (sSq (sSet 1 (xV (mCall m__law_row (mCons (mVar 0) (mCons (mC (.int many)) mNil))))) rest) [.scr ns] = some (.bl true) := by
  obtain ⟨row, h1, h2, h3⟩ := E_row ns many hm
  have := ht row h1 h2
  obtain ⟨u, e1, e2⟩ := tBind_some this
  have st : (sSet 1 (xV (mCall m__law_row (mCons (mVar 0) (mCons (mC (.int many)) mNil))))) ([D.scr ns].map Slot.val ++ List.replicate (nn + 1) Slot.emp) = some (.nx, .val (.scr ns) :: .val (eL eI row) :: List.replicate nn Slot.emp) := by
    rw [List.replicate_succ]
    refine sSet_v (d := eL eI row) ?_
    show m__law_row [.scr ns, .int many] = _
    rw [h3]; rfl
  have mt : Mt (none :: some (.val (eL eI row)) :: List.replicate nn none) (Slot.val (.scr ns) :: .val (eL eI row) :: List.replicate nn Slot.emp) := by
    refine .a (.s ?_)
    induction nn with
    | zero => exact .n
    | succ n ih => exact .a (by
        refine ?_
        clear ih hr st
        induction n with
        | zero => exact .n
        | succ n ih => exact .a ih)
  obtain ⟨fl, Γ1, e3, p⟩ := hr row u e1 _ mt
  refine run_q (ds := [.scr ns]) rfl ?_
  refine q_nx st ?_
  rw [e3]
  cases u with
  | rt v => cases p; cases e2; rfl
  | nx s => exact p.2.elim
  | bk s => exact p.2.elim
  | ct s => exact p.2.elim
end SK

set_option Elab.async false
set_option linter.all false
set_option maxRecDepth 100000
set_option maxHeartbeats 4000000
set_option autoImplicit false
namespace SK
open PySem PySem.Spec PyProof.Rows L2
/-! ### typed: sorted, sets -/
noncomputable def tIns (x : Int) (xs : List Int) : List Int := List.rec (motive := fun _ => List Int) [x] (fun y ys ih => bIf (iLe x y) (x :: y :: ys) (y :: ih)) xs
noncomputable def tSortI (xs : List Int) : List Int := List.rec (motive := fun _ => List Int) [] (fun x _ ih => tIns x ih) xs
theorem tSortI_eq (xs : List Int) : tSortI xs = sortI xs := by
  induction xs with
  | nil => rfl
  | cons x xs ih =>
    show tIns x (tSortI xs) = insI x (sortI xs)
    rw [ih]
    generalize sortI xs = ys
    induction ys with
    | nil => rfl
    | cons y ys ih =>
      show bIf (iLe x y) (x :: y :: ys) (y :: tIns x ys) = insI x (y :: ys)
      unfold insI
      rw [ih, bIf_eq, iLe_eq]
      by_cases h : x ≤ y
      · rw [if_pos h, if_pos (decide_eq_true h)]
      · rw [if_neg h, if_neg (by rw [decide_eq_false h]; exact Bool.false_ne_true)]
noncomputable def tInsP (x : Int × Int) (xs : List (Int × Int)) : List (Int × Int) := List.rec (motive := fun _ => List (Int × Int)) [x] (fun y ys ih => bIf (SrtO.lexB y x) (y :: ih) (x :: y :: ys)) xs
noncomputable def tSortP (xs : List (Int × Int)) : List (Int × Int) := List.rec (motive := fun _ => List (Int × Int)) [] (fun x _ ih => tInsP x ih) xs
theorem tSortP_eq (xs : List (Int × Int)) : tSortP xs = sortP xs := by
  induction xs with
  | nil => rfl
  | cons x xs ih =>
    show tInsP x (tSortP xs) = insP x (sortP xs)
    rw [ih]
    generalize sortP xs = ys
    induction ys with
    | nil => rfl
    | cons y ys ih =>
      show bIf (SrtO.lexB y x) (y :: tInsP x ys) (x :: y :: ys) = insP x (y :: ys)
      unfold insP
      rw [ih, bIf_eq]
noncomputable def tDdI (x : Int) (xs : List Int) : List Int := List.rec (motive := fun _ => List Int) [x] (fun y ys ih => bIf (iLt x y) (x :: y :: ys) (bIf (iEq x y) (y :: ys) (y :: ih))) xs
noncomputable def tSetL (xs : List Int) : List Int := List.rec (motive := fun _ => List Int) [] (fun x _ ih => tDdI x ih) xs
theorem tSetL_eq (xs : List Int) : tSetL xs = setI xs := by
  induction xs with
  | nil => rfl
  | cons x xs ih =>
    show tDdI x (tSetL xs) = ddI x (setI xs)
    rw [ih]
    generalize setI xs = ys
    induction ys with
    | nil => rfl
    | cons y ys ih =>
      show bIf (iLt x y) (x :: y :: ys) (bIf (iEq x y) (y :: ys) (y :: tDdI x ys)) = ddI x (y :: ys)
      unfold ddI
      rw [ih, bIf_eq, bIf_eq, iLt_eq, iEq_eq]
      by_cases h : x < y
      · rw [if_pos h, if_pos (decide_eq_true h)]
      · rw [if_neg h, if_neg (by rw [decide_eq_false h]; exact Bool.false_ne_true)]
        by_cases e : x = y
        · rw [if_pos e, if_pos (decide_eq_true e)]
        · rw [if_neg e, if_neg (by rw [decide_eq_false e]; exact Bool.false_ne_true)]
noncomputable def tSetI (xs : List Int) : Option (List Int) := bIf (bAnd (Nat.blt (tLenN (tSetL xs)) 64) (Nat.blt (tLenN xs) 4000)) (some (tSetL xs)) none
noncomputable def tUnO {α : Type} (xs : List (Option α)) : Option (List α) := List.rec (motive := fun _ => Option (List α)) (some []) (fun x _ ih => tBind x fun y => tBind ih fun ys => some (y :: ys)) xs
theorem tUnO_some {α : Type} : ∀ {xs : List (Option α)} {ys : List α}, tUnO xs = some ys → xs = ys.map some
  | [], ys, h => by cases h; rfl
  | x :: xs, ys, h => by
    obtain ⟨y, rfl, h⟩ := tBind_some (show tBind x (fun y => tBind (tUnO xs) fun ys => some (y :: ys)) = some ys from h)
    obtain ⟨zs, h1, h⟩ := tBind_some h
    cases h
    rw [tUnO_some h1]; rfl
section
variable {α : Type} {ss : Sp} {a : ME} {e : α → D} {xs : List (Option α)}
theorem Eo.unOL (h : Eg ss a (eL (eO e) xs)) : Eo ss a (eL e) (tUnO xs) := fun ys hy => by
  rw [tUnO_some hy] at h
  unfold eL at h ⊢
  rw [List.map_map] at h
  exact h
theorem Eo.unOT (h : Eg ss a (eT (eO e) xs)) : Eo ss a (eT e) (tUnO xs) := fun ys hy => by
  rw [tUnO_some hy] at h
  unfold eT at h ⊢
  rw [List.map_map] at h
  exact h
end
section
variable {ss : Sp} {a : ME}
theorem dSetI_of {x : D} {ns ys : List Int} (hx : itemsD x = some (ns.map D.int)) (h : tSetI ns = some ys) : dSetI [x] = some (eL eI ys) := by
  obtain ⟨c, h⟩ := bIf_some h
  cases h
  rw [bAnd_eq, Bool.and_eq_true, Nat.blt_eq, Nat.blt_eq, tLenN_eq, tLenN_eq, tSetL_eq] at c
  show (itemsD x).bind _ = _
  rw [hx, Option.bind_some, intsOf_map, Option.bind_some, if_pos (by simp only [Bool.and_eq_true, decide_eq_true_eq]; exact c), tSetL_eq]; rfl
theorem Eo.setIL {ns : List Int} (h : Eg ss a (eL eI ns)) : Eo ss (mCall dSetI (mCons a mNil)) (eL eI) (tSetI ns) := Eo.call (fun r hr => dSetI_of rfl hr) (.ac h .a0)
theorem Eo.setIT {ns : List Int} (h : Eg ss a (eT eI ns)) : Eo ss (mCall dSetI (mCons a mNil)) (eL eI) (tSetI ns) := Eo.call (fun r hr => dSetI_of rfl hr) (.ac h .a0)
theorem Eg.sortI {ns : List Int} (h : Eg ss a (eL eI ns)) : Eg ss (mCall dSorted (mCons a mNil)) (eL eI (tSortI ns)) := Eg.call (by
  show (match intsOf (ns.map D.int) with | some ns => some (D.lst ((SK.sortI ns).map .int)) | none => _) = _
  rw [intsOf_map, tSortI_eq]; rfl) (.ac h .a0)
theorem ints_pairs : ∀ ps : List (Int × Int), ps ≠ [] → intsOf (ps.map (eP2 eI eI)) = none
  | [], h => absurd rfl h
  | p :: ps, _ => rfl
theorem Eg.sortP {ps : List (Int × Int)} (h : Eg ss a (eL (eP2 eI eI) ps)) : Eg ss (mCall dSorted (mCons a mNil)) (eL (eP2 eI eI) (tSortP ps)) := Eg.call (by
  cases ps with
  | nil => rfl
  | cons p ps =>
    show (match intsOf ((p :: ps).map (eP2 eI eI)) with | some ns => some (D.lst ((SK.sortI ns).map .int)) | none => (pairsOf ((p :: ps).map pairD)).map fun ps => .lst ((SK.sortP ps).map pairD)) = _
    rw [ints_pairs _ (List.cons_ne_nil _ _), pairsOf_map, tSortP_eq]; rfl) (.ac h .a0)
end
/-! ### typed: the wider rules -/
section
variable {α β : Type} {ss : Sp} {a b : ME} {e : α → D} {f : β → D} {eq : α → α → Bool} {n : Nat} {x : α} {xs : List α}
theorem in_any (h : EqT n e eq) (hn : Nat.ble n 7 = true) : (D.shp 7 (e x) && (xs.map e).all (D.shp 7)) = true ∧ ((xs.map e).any fun d => D.eqb d (e x)) = tIn eq x xs := by
  have hn := Nat.le_of_ble_eq_true hn
  refine ⟨Bool.and_eq_true_iff.mpr ⟨shp_up hn (h.shp x), List.all_eq_true.mpr fun d hd => by obtain ⟨y, _, rfl⟩ := List.mem_map.mp hd; exact shp_up hn (h.shp y)⟩, ?_⟩
  rw [tIn_any, List.any_map]
  congr 1
  funext y
  exact h.eqb y x
theorem Eg.inTA (h : EqT n e eq) (hn : Nat.ble n 7 = true) (ha : Eg ss a (e x)) (hb : Eg ss b (eT e xs)) : Eg ss (mBin dInA a b) (eB (tIn eq x xs)) := Eg.bin ha hb (by
  obtain ⟨h1, h2⟩ := in_any (xs := xs) (x := x) h hn
  show (if D.shp 7 (e x) && (xs.map e).all (D.shp 7) then some (D.bl ((xs.map e).any fun d => D.eqb d (e x))) else none) = _
  rw [h1, h2]; rfl)
theorem Eg.inLA (h : EqT n e eq) (hn : Nat.ble n 7 = true) (ha : Eg ss a (e x)) (hb : Eg ss b (eL e xs)) : Eg ss (mBin dInA a b) (eB (tIn eq x xs)) := Eg.bin ha hb (by
  obtain ⟨h1, h2⟩ := in_any (xs := xs) (x := x) h hn
  show (if D.shp 7 (e x) && (xs.map e).all (D.shp 7) then some (D.bl ((xs.map e).any fun d => D.eqb d (e x))) else none) = _
  rw [h1, h2]; rfl)
theorem Eg.notInTA (h : EqT n e eq) (hn : Nat.ble n 7 = true) (ha : Eg ss a (e x)) (hb : Eg ss b (eT e xs)) : Eg ss (mBin dNotInA a b) (eB (bNot (tIn eq x xs))) := Eg.bin ha hb (by
  obtain ⟨h1, h2⟩ := in_any (xs := xs) (x := x) h hn
  show (if D.shp 7 (e x) && (xs.map e).all (D.shp 7) then some (D.bl (!(xs.map e).any fun d => D.eqb d (e x))) else none) = _
  rw [h1, h2]; rfl)
theorem Eg.notInLA (h : EqT n e eq) (hn : Nat.ble n 7 = true) (ha : Eg ss a (e x)) (hb : Eg ss b (eL e xs)) : Eg ss (mBin dNotInA a b) (eB (bNot (tIn eq x xs))) := Eg.bin ha hb (by
  obtain ⟨h1, h2⟩ := in_any (xs := xs) (x := x) h hn
  show (if D.shp 7 (e x) && (xs.map e).all (D.shp 7) then some (D.bl (!(xs.map e).any fun d => D.eqb d (e x))) else none) = _
  rw [h1, h2]; rfl)
theorem Eg.sumL {ns : List Int} (h : Eg ss a (eL eI ns)) : Eg ss (mCall dSumA (mCons a mNil)) (eI (tSum ns)) := Eg.call (by
  show (intsOf (ns.map D.int)).map _ = _
  rw [intsOf_map, tSum_eq]; rfl) (.ac h .a0)
theorem Eg.sumT {ns : List Int} (h : Eg ss a (eT eI ns)) : Eg ss (mCall dSumA (mCons a mNil)) (eI (tSum ns)) := Eg.call (by
  show (intsOf (ns.map D.int)).map _ = _
  rw [intsOf_map, tSum_eq]; rfl) (.ac h .a0)
theorem Eg.anyL {bs : List Bool} (h : Eg ss a (eL eB bs)) : Eg ss (mCall dAnyA (mCons a mNil)) (eB (tAnyB bs)) := Eg.call (by
  show (blsOf (bs.map D.bl)).map _ = _
  rw [blsOf_map, tAnyB_eq]; rfl) (.ac h .a0)
noncomputable def tAnyI (ns : List Int) : Bool := List.rec (motive := fun _ => Bool) false (fun x _ ih => bOr (bNot (iEq x (.ofNat 0))) ih) ns
theorem tAnyI_eq (ns : List Int) : tAnyI ns = ns.any (· != 0) := by
  induction ns with
  | nil => rfl
  | cons x xs ih =>
    show bOr (bNot (iEq x (.ofNat 0))) (tAnyI xs) = _
    rw [ih, bOr_eq, bNot_eq, ← iEq_beq]; rfl
theorem Eg.anyTI {ns : List Int} (h : Eg ss a (eT eI ns)) : Eg ss (mCall dAnyA (mCons a mNil)) (eB (tAnyI ns)) := Eg.call (by
  show (intsOf (ns.map D.int)).map _ = _
  rw [intsOf_map, tAnyI_eq]; rfl) (.ac h .a0)
theorem sorted_I (ns : List Int) : dSorted [.lst (ns.map D.int)] = some (eL eI (tSortI ns)) := by
  show (match intsOf (ns.map D.int) with | some ns => some (D.lst ((SK.sortI ns).map .int)) | none => _) = _
  rw [intsOf_map, tSortI_eq]; rfl
theorem sorted_P (ps : List (Int × Int)) : dSorted [.lst (ps.map (eP2 eI eI))] = some (eL (eP2 eI eI) (tSortP ps)) := by
  cases ps with
  | nil => rfl
  | cons p ps =>
    show (match intsOf ((p :: ps).map (eP2 eI eI)) with | some ns => some (D.lst ((SK.sortI ns).map .int)) | none => (pairsOf ((p :: ps).map pairD)).map fun ps => .lst ((SK.sortP ps).map pairD)) = _
    rw [ints_pairs _ (List.cons_ne_nil _ _), pairsOf_map, tSortP_eq]; rfl
theorem Eg.sortAI {ns : List Int} (h : Eg ss a (eL eI ns)) : Eg ss (mCall dSortA (mCons a mNil)) (eL eI (tSortI ns)) := Eg.call (by
  unfold dSortA eL
  rw [show ns.map eI = ns.map D.int from rfl, sorted_I]; rfl) (.ac h .a0)
theorem Eg.sortAP {ps : List (Int × Int)} (h : Eg ss a (eL (eP2 eI eI) ps)) : Eg ss (mCall dSortA (mCons a mNil)) (eL (eP2 eI eI) (tSortP ps)) := Eg.call (by
  unfold dSortA eL
  rw [sorted_P]; rfl) (.ac h .a0)
/-! tuples of ints, told by their items -/
noncomputable def lexT (xs : List Int) : List Int → Bool := List.rec (motive := fun _ => List Int → Bool) (fun ys => bNot (tEmp ys)) (fun x _ ih ys => List.rec (motive := fun _ => Bool) false (fun y ys _ => bIf (iEq x y) (ih ys) (iLt x y)) ys) xs
theorem lexT_eq : ∀ xs ys : List Int, lexT xs ys = lexL xs ys
  | [], [] => rfl
  | [], _ :: _ => rfl
  | _ :: _, [] => rfl
  | x :: xs, y :: ys => by
    show bIf (iEq x y) (lexT xs ys) (iLt x y) = lexL (x :: xs) (y :: ys)
    unfold lexL
    rw [lexT_eq xs ys, bIf_eq, iEq_eq, iLt_eq]
    by_cases h : x = y
    · rw [if_pos h, if_pos (decide_eq_true h)]
    · rw [if_neg h, if_neg (by rw [decide_eq_false h]; exact Bool.false_ne_true)]
/-- by the ints that k tells -/
noncomputable def tInsK (k : α → List Int) (x : α) (ys : List α) : List α := List.rec (motive := fun _ => List α) [x] (fun y ys ih => bIf (lexT (k y) (k x)) (y :: ih) (x :: y :: ys)) ys
noncomputable def tSortK (k : α → List Int) (xs : List α) : List α := List.rec (motive := fun _ => List α) [] (fun x _ ih => tInsK k x ih) xs
theorem tSortK_map (k : α → List Int) : ∀ xs : List α, (tSortK k xs).map k = sortL (xs.map k)
  | [] => rfl
  | x :: xs => by
    show (tInsK k x (tSortK k xs)).map k = insL (k x) (sortL (xs.map k))
    rw [← tSortK_map k xs]
    generalize tSortK k xs = ys
    induction ys with
    | nil => rfl
    | cons y ys ih =>
      show (bIf (lexT (k y) (k x)) (y :: tInsK k x ys) (x :: y :: ys)).map k = insL (k x) (k y :: ys.map k)
      unfold insL
      rw [bIf_eq, lexT_eq]
      by_cases h : lexL (k y) (k x) = true
      · rw [if_pos h, if_pos h, List.map_cons, ih]
      · rw [if_neg h, if_neg h]; rfl
/-- typed values that stand as tuples of ints, at least one -/
structure TupK (e : α → D) (k : α → List Int) : Prop where
  at_ : ∀ x, e x = tupI (k x)
  ne : ∀ x, (k x).isEmpty = false
  no : ∀ x, intsOf [e x] = none
theorem tupK_map {k : α → List Int} (h : TupK e k) (xs : List α) : xs.map e = (xs.map k).map tupI := by
  rw [List.map_map]; exact List.map_congr_left fun x _ => h.at_ x
theorem dSorted_none {xs : List D} {d : D} (h : dSorted [.lst xs] = some d) : d = .lst [] ∨ intsOf xs ≠ none ∨ pairsOf xs ≠ none := by
  unfold dSorted at h
  simp only at h
  split at h
  · rename_i ns e; exact .inr (.inl (by rw [e]; exact Option.some_ne_none _))
  · right; right; intro z; rw [z] at h; cases h
theorem Eg.sortAK {k : α → List Int} (h : TupK e k) (h2 : ∀ x, pairOf (e x) = none) (ha : Eg ss a (eL e xs)) : Eg ss (mCall dSortA (mCons a mNil)) (eL e (tSortK k xs)) := Eg.call (by
  have main : dSortT [.lst (xs.map e)] = some (eL e (tSortK k xs)) := by
    unfold dSortT eL
    simp only
    rw [tupK_map h, tupsOf_map, Option.bind_some, if_pos, tupK_map h, tSortK_map]
    exact List.all_eq_true.mpr fun p hp => by obtain ⟨x, _, rfl⟩ := List.mem_map.mp hp; rw [h.ne]; rfl
  unfold dSortA
  cases xs with
  | nil => rfl
  | cons x xs =>
    have no : dSorted [eL e (x :: xs)] = none := by
      show (match intsOf (e x :: xs.map e) with | some ns => some (D.lst ((SK.sortI ns).map .int)) | none => (pairsOf (e x :: xs.map e)).map fun ps => .lst ((SK.sortP ps).map pairD)) = none
      have i1 : intsOf (e x :: xs.map e) = none := by
        rw [h.at_ x]; rfl
      have i2 : pairsOf (e x :: xs.map e) = none := by
        show (pairOf (e x)).bind _ = none
        rw [h2]; rfl
      rw [i1, i2]; rfl
    rw [no]; exact main) (.ac ha .a0)
def k3 (p : Int × Int × Int) : List Int := [p.1, p.2.1, p.2.2]
theorem tupK3 : TupK (eP3 eI eI eI) k3 := ⟨fun _ => rfl, fun _ => rfl, fun _ => rfl⟩
/-! what is walked -/
theorem tEnum_map (xs : List α) : enumD (xs.map e) = (tEnum xs).map (eP2 eI e) := by
  have key : ∀ (xs : List α) (n : Nat), (List.rec (motive := fun _ => Int → List (Int × α)) (fun _ => []) (fun x _ ih n => (n, x) :: ih (iAdd n (.ofNat 1))) xs (.ofNat n) : List (Int × α)) = (xs.zipIdx n).map fun p => (Int.ofNat p.2, p.1) := by
    intro xs
    induction xs with
    | nil => intro n; rfl
    | cons x xs ih => intro n; show (Int.ofNat n, x) :: _ = _; rw [List.zipIdx_cons, List.map_cons]; congr 1; exact ih (n + 1)
  unfold tEnum
  have k0 := key xs 0
  rw [show ((0 : Nat) : Nat) = 0 from rfl] at k0
  rw [k0]
  unfold enumD
  apply List.ext_getElem?
  intro i
  rw [List.getElem?_map, List.getElem?_map, List.getElem?_map, List.getElem?_zipIdx, List.length_map]
  by_cases hi : i < xs.length
  · rw [List.getElem?_range hi, List.getElem?_eq_getElem hi, Option.map_some, Option.map_some, Option.map_some, Option.map_some, List.getD_eq_getElem?_getD, List.getElem?_map, List.getElem?_eq_getElem hi]
    unfold eP2 eI
    simp
  · rw [List.getElem?_eq_none (by rw [List.length_range]; omega), List.getElem?_eq_none (by omega)]; rfl
theorem Eg.enumL (h : Eg ss a (eL e xs)) : Eg ss (mEnumA a) ((tEnum xs).map (eP2 eI e)) := fun Γ m => by
  unfold mEnumA; rw [h Γ m]
  show some (enumD (xs.map e)) = _
  rw [tEnum_map]
theorem Eg.enumT (h : Eg ss a (eT e xs)) : Eg ss (mEnumA a) ((tEnum xs).map (eP2 eI e)) := fun Γ m => by
  unfold mEnumA; rw [h Γ m]
  show some (enumD (xs.map e)) = _
  rw [tEnum_map]
theorem Eg.zipCT {ys : List β} (h : Eg ss a (eT e xs)) (h2 : Eg ss b (eT f ys)) : Eg ss (mZipC a b) ((tZip xs ys).map (eP2 e f)) := fun Γ m => by
  unfold mZipC; rw [h Γ m, h2 Γ m]
  show some (zipD _ _) = _
  rw [zipD_map]
theorem Eg.zipCL {ys : List β} (h : Eg ss a (eL e xs)) (h2 : Eg ss b (eL f ys)) : Eg ss (mZipC a b) ((tZip xs ys).map (eP2 e f)) := fun Γ m => by
  unfold mZipC; rw [h Γ m, h2 Γ m]
  show some (zipD _ _) = _
  rw [zipD_map]
def tChars (x : Str) : List Str := x.cps.toList.map fun c => ⟨#[c]⟩
theorem Eg.zipCS {y : Str} (h : Eg ss a (eT e xs)) (h2 : Eg ss b (eS y)) : Eg ss (mZipC a b) ((tZip xs (tChars y)).map (eP2 e eS)) := fun Γ m => by
  unfold mZipC; rw [h Γ m, h2 Γ m]
  show some (zipD (xs.map e) (strD y)) = _
  rw [show strD y = (tChars y).map eS by unfold strD tChars; rw [List.map_map]; rfl, zipD_map]
/-! texts -/
noncomputable def tEqS (x y : Str) : Option Bool := bIf (bAnd (PyData.strOk x) (PyData.strOk y)) (some (x == y)) none
theorem Eo.eqS {x y : Str} (ha : Eg ss a (eS x)) (hb : Eg ss b (eS y)) : Eo ss (mBin dEq a b) eB (tEqS x y) := fun z h => by
  obtain ⟨c, h⟩ := bIf_some h
  cases h
  rw [bAnd_eq] at c
  refine Eg.bin ha hb ?_
  show (if PyData.strOk x && PyData.strOk y then some (D.bl (x == y)) else none) = _
  rw [c]; rfl
noncomputable def tLenS (x : Str) : Option Int := bIf (Nat.ble x.length 16777216) (some (.ofNat x.length)) none
theorem Eo.lenS {x : Str} (ha : Eg ss a (eS x)) : Eo ss (mCall dLen (mCons a mNil)) eI (tLenS x) := Eo.call (fun r h => by
  obtain ⟨c, h⟩ := bIf_some h
  cases h
  show (if x.length ≤ LIM then some (D.int x.length) else none) = _
  rw [if_pos (show x.length ≤ LIM from Nat.le_of_ble_eq_true c)]; rfl) (.ac ha .a0)
/-! a few of one kind as a tuple -/
theorem Eg.pt2 {p : α × α} (h : Eg ss a (eP2 e e p)) : Eg ss a (eT e [p.1, p.2]) := h
theorem Eg.pt3 {p : α × α × α} (h : Eg ss a (eP3 e e e p)) : Eg ss a (eT e [p.1, p.2.1, p.2.2]) := h
theorem Eg.pt4 {p : α × α × α × α} (h : Eg ss a (eP4 e e e e p)) : Eg ss a (eT e [p.1, p.2.1, p.2.2.1, p.2.2.2]) := h
end
end SK

set_option Elab.async false
set_option linter.all false
set_option maxRecDepth 100000
set_option maxHeartbeats 4000000
set_option autoImplicit false
namespace SK
open PySem PySem.Spec PyProof.Rows L2
/-! ### sorted of a tuple of ints -/
section
variable {prog : Program} {w : World} {A : Around} {E : Value → Shared → Prop} {s : Shared}
theorem collect_tup {l : Addr} {vs : List Value} {Q : List Value → Shared → Prop} (hl : s.heap.IsTuple l vs.toArray)
    (h : Q vs { s with heap := (s.heap.push (seqObj "list" #[] 0)).update s.heap.objs.size (Obj.mapSeq (· ++ vs.toArray)) }) (hsz : vs.length ≤ sizeLine) :
    wpAny (model prog w) A (collect (.ref l)) Q E s := by
  obtain ⟨o, ho, hc, n, hd⟩ := id hl
  unfold collect
  refine wpAny_bind (wpAny_runValue (codeAny_builtin entry_proto_collect' ?_))
  show wpAny _ _ (do again (.builtin "list.__iadd__" ⟨[← newList [], .ref l], []⟩)) _ _ s
  refine wpAny_bind (wpAny_newList (wpAny_pure ⟨Code.quiet_builtin _ (by decide +kernel), codeAny_builtin entry_list_iadd' ?_⟩))
  show wpAny _ _ (Builtin.List.listExtendWith (.ref s.heap.objs.size) (.ref l) (.ref s.heap.objs.size)) _ _ { s with heap := s.heap.push (seqObj "list" #[] 0) }
  unfold Builtin.List.listExtendWith
  have at1 : (s.heap.push (seqObj "list" #[] 0)).get? l = some o := Heap.get?_push_of_some _ ho
  refine wpAny_bind (wpAny_typeOf (T := "tuple") ⟨o, at1, hc⟩ ?_)
  have ht : (Value.type "tuple" == Value.type "tuple") = true := by rfl
  rw [if_pos (by rw [ht]; simp)]
  refine wpAny_bind (listItems_at at1 hd ?_)
  refine wpAny_bind (listItems_at (xs := #[]) (n := 0) (Heap.get?_push_size _ rfl) rfl ?_)
  rw [if_neg (by simp)]
  refine wpAny_bind (listUpdate_at (xs := #[]) (n := 0) (Heap.get?_push_size _ rfl) rfl ?_ (Nat.zero_le _) (by show (#[] ++ vs.toArray).size ≤ sizeLine + 1; simp only [Array.size_append, List.size_toArray, List.length_nil]; omega))
  refine wpAny_pure ?_
  show wpAny (model prog w) A (do
      let o ← load s.heap.objs.size
      match o.data with
      | .seq xs _ => pure xs.toList
      | _ => unsupported "internal:collect") Q E { s with heap := (s.heap.push (seqObj "list" #[] 0)).update s.heap.objs.size (Obj.mapSeq (· ++ vs.toArray)) }
  refine wpAny_bind (wpAny_load (get?_update_seq (Heap.get?_push_size _ rfl) _) ?_)
  show wpAny _ _ (pure ((#[] : Array Value) ++ vs.toArray).toList) Q E _
  rw [show ((#[] : Array Value) ++ vs.toArray).toList = vs by simp]
  exact wpAny_pure h
theorem sorted_ordT {l : Addr} {vs : List Value} {ltv : Value → Value → Bool} {Q : Value → Shared → Prop} (O : SrtO.Swo ltv) (hl : s.heap.IsTuple l vs.toArray) (hz : vs.length ≤ sizeLine)
    (hS : 2 ≤ vs.length → ∀ (h1 : Heap) (a : Addr), h1.get? a = some (seqObj "list" vs.toArray 0) → (∀ b o, s.heap.get? b = some o → b ≠ a ∧ h1.get? b = some o) → SrtO.SortableO prog w A.in1.in1 { s with heap := h1 } a vs ltv)
    (h : ∀ out : List Value, SrtO.Srtd ltv out → SrtO.Stb ltv out vs → Q (.ref (s.heap.objs.size + 1)) { s with heap := sortedAll s.heap vs out.toArray }) :
    wpAny (model prog w) A (call (.builtin "sorted") [.ref l]) Q E s := by
  refine Calls.call_function_entry kind_sorted plain_sorted entry_sorted (args_sorted1 _) ?_
  unfold Builtin.«sorted»
  refine wpAny_bind (m := checkCount "sorted" 1 1 _) (wpAny_pure ?_)
  refine wpAny_bind (collect_tup hl ?_ hz)
  refine wpAny_bind (wpAny_newList ?_ hz)
  have sz1 : ((s.heap.push (seqObj "list" #[] 0)).update s.heap.objs.size (Obj.mapSeq (· ++ vs.toArray))).objs.size = s.heap.objs.size + 1 := by
    rw [Heap.size_update, size_push']
  have at1 : (((s.heap.push (seqObj "list" #[] 0)).update s.heap.objs.size (Obj.mapSeq (· ++ vs.toArray))).push (seqObj "list" vs.toArray 0)).get? (s.heap.objs.size + 1) = some (seqObj "list" vs.toArray 0) := by
    rw [← sz1]; exact Heap.get?_push_size _ rfl
  have old : ∀ b o, s.heap.get? b = some o → b ≠ s.heap.objs.size + 1 ∧ (((s.heap.push (seqObj "list" #[] 0)).update s.heap.objs.size (Obj.mapSeq (· ++ vs.toArray))).push (seqObj "list" vs.toArray 0)).get? b = some o := fun b o q => by
    have lt := Heap.lt_size q
    refine ⟨Nat.ne_of_lt (Nat.lt_succ_of_lt lt), Heap.get?_push_of_some _ ?_⟩
    rw [Heap.get?_update_ne _ _ _ _ (Nat.ne_of_lt lt)]
    exact Heap.get?_push_of_some _ q
  show wpAny _ _ _ _ _ { s with heap := ((s.heap.push (seqObj "list" #[] 0)).update s.heap.objs.size (Obj.mapSeq (· ++ vs.toArray))).push (seqObj "list" vs.toArray 0) }
  rw [sz1]
  refine wpAny_bind (wpAny_holding (wpAny_call_entry slot_list_sort ⟨_, at1, rfl⟩ entry_list_sort (SrtO.list_sort_ord O at1 hz (fun h2 => hS h2 _ _ at1 old) fun out hs hb => ⟨_, rfl, ?_⟩) (args_list_sort _)))
  exact wpAny_pure ⟨_, rfl, h out hs hb⟩
end
/-- sorted(t), t a tuple of ints -/
def rSortedIT (K : PySem.W.Frag) : List V → Hp → VK → Prop := fun vs H Q => ∃ (a : Addr) (ns : List Int), vs = [V.ref a] ∧ SqT K H a (ns.map V.int) ∧
  ∀ (ns' : List Int) (p : Addr), ns'.Perm ns → ns'.Pairwise (· ≤ ·) → H p = none → Q (.ref p) (upd H p (.lst (ns'.map V.int)))
theorem cr_sortedIT {X : Cx} : CallR X (.builtin "sorted") (rSortedIT X.K) := by
  intro pins s σ H vs us Q I r h
  obtain ⟨a, ns, rfl, hs, q⟩ := h
  obtain ⟨its, rv, hl, hz⟩ := I.tuple hs
  rw [Vals.ref1 r]
  have hi := rv.ints
  refine sorted_ordT SrtO.swo_int (by obtain ⟨o, h1, h2, n, h3⟩ := hl; exact ⟨o, h1, h2, n, h3⟩) (by rw [← rv.length]; exact hz) (fun h2 h1 b _ _ => SrtO.ints_sortable hi h2) fun out h1 h2 => ?_
  obtain ⟨k1, k2, k3⟩ := SrtO.ints_out hi h1 h2
  obtain ⟨ep, he⟩ := PyProof.Rows.sortedAll_at s.heap its out.toArray
  have hlen : ((out.map SrtO.iv).map V.int).length ≤ sizeLine := by
    rw [List.length_map, k2.length_eq]
    rw [List.length_map] at hz
    exact hz
  exact ⟨.ref _, upd H (s.heap.objs.size + 1) (.lst ((out.map SrtO.iv).map V.int)), I.laid (t' := s.toks) (fun _ _ => PyProof.Rows.sortedAll_old) (Nat.le_succ _) ⟨hlen, out, ep, vals_of_ints k1, he⟩, rfl, q _ _ k2 k3 (I.hok.fresh (Nat.le_succ _))⟩
def dSortIT : List D → Option D
  | [.tup xs] => (intsOf xs).map fun ns => .lst ((sortI ns).map .int)
  | _ => none
section
variable {K : PySem.W.Frag}
theorem d_sortIT : Fn1N K dSortIT (rSortedIT K) := by
  intro F H vs ds d Q s r e q
  unfold dSortIT at e
  split at e
  · obtain ⟨v, rfl, rr⟩ := bl1 r
    obtain ⟨a, ws, rfl, h1, r1⟩ := rr.tup
    obtain ⟨ns, e1, rfl⟩ := Option.map_eq_some_iff.mp e
    rw [ints_rep e1 r1] at h1
    refine ⟨a, ns, rfl, .of (s _ _ h1), fun ns' p hp hs np => ?_⟩
    rw [sortI_eq hp hs]
    exact q p _ _ F (Ext.own s np) np (s.free np) upd_same rfl (.lst (rep_ints _))
  · cases e
/-- lists of ints, of pairs of ints, of tuples of ints; a tuple of ints -/
def dSortB (ds : List D) : Option D := match dSortA ds with
  | some d => some d
  | none => dSortIT ds
def rSortB (K : PySem.W.Frag) : List V → Hp → VK → Prop := fun vs H Q => rSortA K vs H Q ∨ rSortedIT K vs H Q
theorem op_sortB {X : Cx} : CallR X (.builtin "sorted") (rSortB X.K) := CallR.or op_sortA cr_sortedIT
theorem d_sortB : Fn1N K dSortB (rSortB K) := by
  intro F H vs ds d Q s r e q
  unfold dSortB at e
  split at e
  · rename_i d' hd
    cases e
    exact .inl (d_sortA F H vs ds _ Q s r hd q)
  · exact .inr (d_sortIT F H vs ds d Q s r e q)
end
section
variable {ss : Sp} {a : ME}
theorem Eg.sortB {d : D} (h : Eg ss (mCall dSortA (mCons a mNil)) d) : Eg ss (mCall dSortB (mCons a mNil)) d := fun Γ m => by
  have h := h Γ m
  unfold mCall at h ⊢
  obtain ⟨ds, e1, e2⟩ := Option.bind_eq_some_iff.mp h
  rw [e1]
  show dSortB ds = _
  unfold dSortB
  rw [e2]
theorem Eg.sortIT {ns : List Int} (h : Eg ss a (eT eI ns)) : Eg ss (mCall dSortB (mCons a mNil)) (eL eI (tSortI ns)) := Eg.call (by
  show (match dSortA [.tup (ns.map D.int)] with | some d => some d | none => dSortIT [.tup (ns.map D.int)]) = _
  show (intsOf (ns.map D.int)).map _ = _
  rw [intsOf_map, tSortI_eq]; rfl) (.ac h .a0)
end
end SK

set_option Elab.async false
set_option linter.all false
set_option maxRecDepth 100000
set_option maxHeartbeats 4000000
set_option autoImplicit false
namespace SK
open PySem PySem.Spec PyProof.Rows L2
/-! ### t[::c] of a tuple -/
def pickN (c : Int) (n : Nat) : List Nat :=
  (List.range (Builtin.Slice.slicePlaces (Builtin.Slice.sliceAdjust none none c n).1 (Builtin.Slice.sliceAdjust none none c n).2 c)).map fun (k : Nat) => ((Builtin.Slice.sliceAdjust none none c n).1 + (k : Int) * c).toNat
def pickT {α : Type} (c : Int) (xs : List α) : List α := (pickN c xs.length).filterMap fun j => xs[j]?
section
variable {prog : Program} {w : World} {A : Around} {E : Value → Shared → Prop} {s : Shared}
theorem sliceApplied_step {sl : Addr} {vs : Value} {c : Int} {n : Nat} {Q : Int × Int × Nat → Shared → Prop} (hs : s.heap.IsSliceOf sl .none .none vs) (ps : IsPart vs (some c)) (h0 : c ≠ 0)
    (h : Q ((Builtin.Slice.sliceAdjust none none c n).1, c, Builtin.Slice.slicePlaces (Builtin.Slice.sliceAdjust none none c n).1 (Builtin.Slice.sliceAdjust none none c n).2 c) s) : wpAny (model prog w) A (Builtin.Slice.sliceApplied (.ref sl) (pure (n : Int))) Q E s := by
  obtain ⟨os, hos, hcs, hds⟩ := id hs
  unfold Builtin.Slice.sliceApplied Builtin.Slice.sliceFields
  refine wpAny_bind (wpAny_bind (wpAny_field hos hds (x := .none) rfl (wpAny_bind (wpAny_field hos hds (x := .none) rfl (wpAny_bind (wpAny_field hos hds (x := vs) rfl (wpAny_pure ?_)))))))
  refine wpAny_bind (HT.slicePart_ ps ?_)
  show wpAny _ _ (if (c == 0) = true then _ else _) _ _ s
  rw [if_neg (by simpa using h0)]
  refine wpAny_bind (slicePart_none (wpAny_bind (slicePart_none (wpAny_bind (wpAny_pure ?_)))))
  exact wpAny_pure h
theorem pick_eq (c : Int) (items : Array Value) : ((List.range (Builtin.Slice.slicePlaces (Builtin.Slice.sliceAdjust none none c items.size).1 (Builtin.Slice.sliceAdjust none none c items.size).2 c)).filterMap fun (k : Nat) => items[((Builtin.Slice.sliceAdjust none none c items.size).1 + (k : Int) * c).toNat]?).toArray = (pickT c items.toList).toArray := by
  unfold pickT pickN
  rw [List.filterMap_map, Array.length_toList]
  congr 2
  funext k
  simp
theorem pick_len {α : Type} (c : Int) (xs : List α) (h : Builtin.Slice.slicePlaces (Builtin.Slice.sliceAdjust none none c xs.length).1 (Builtin.Slice.sliceAdjust none none c xs.length).2 c ≤ xs.length) : (pickT c xs).length ≤ xs.length := by
  unfold pickT
  refine Nat.le_trans (List.length_filterMap_le _ _) ?_
  unfold pickN
  rw [List.length_map, List.length_range]; exact h
theorem getItem_tuple_step {t sl : Addr} {items : Array Value} {vs : Value} {c : Int} {Q : Value → Shared → Prop} (ht : IsTup s.heap t items) (hs : s.heap.IsSliceOf sl .none .none vs) (ps : IsPart vs (some c)) (h0 : c ≠ 0) (h1 : c ≠ 1)
    (hp : Builtin.Slice.slicePlaces (Builtin.Slice.sliceAdjust none none c items.size).1 (Builtin.Slice.sliceAdjust none none c items.size).2 c ≤ items.size)
    (h : Q (.ref s.heap.objs.size) { s with heap := s.heap.push { cls := .type "tuple", data := .seq (pickT c items.toList).toArray } }) (hsz : items.size ≤ sizeLine) : wpAny (model prog w) A (getItem (.ref t) (.ref sl)) Q E s := by
  have fits : sizeOk (.seq (pickT c items.toList).toArray) := by
    show (pickT c items.toList).length ≤ sizeLine
    have := pick_len c items.toList (by rw [Array.length_toList]; exact hp)
    rw [Array.length_toList (xs := items)] at this
    omega
  obtain ⟨os, hos, hcs, hds⟩ := id hs
  have hTs : s.TypeIs (.ref sl) "slice" := ⟨os, hos, hcs⟩
  unfold getItem
  try with_reducible refine wpAny_holding ?_
  first | refine wpAny_bind (wpAny_pure ?_) | skip
  refine wpAny_bind (wpAny_sequenceKey ht.typeIs (by decide) ?_)
  refine wpAny_bind (wpAny_callSpecial?_slot (name := Str.ofString "__getitem__") ht.typeIs PyProof.Rows.slot_tuple_getitem
    (wpAny_call_entry PyProof.Rows.slot_tuple_getitem ht.typeIs entry_tuple_getitem ?_ (args_tuple_getitem _ _)))
  show wpAny _ _ (Builtin.Tuple.tupleItemsOf (.ref t) >>= _) _ _ s
  refine wpAny_bind (tupleItemsOf_ ht ?_)
  refine wpAny_bind (wpAny_typeOf hTs ?_)
  rw [if_pos (by decide)]
  refine wpAny_bind (sliceApplied_step hs ps h0 ?_)
  have no : ¬ (((Builtin.Slice.sliceAdjust none none c items.size).1 == 0 && c == 1 && (Builtin.Slice.slicePlaces (Builtin.Slice.sliceAdjust none none c items.size).1 (Builtin.Slice.sliceAdjust none none c items.size).2 c) == items.size) = true) := by
    intro q
    rw [Bool.and_eq_true, Bool.and_eq_true] at q
    exact h1 (eq_of_beq q.1.2)
  show wpAny _ _ (if ((Builtin.Slice.sliceAdjust none none c items.size).1 == 0 && c == 1 && (Builtin.Slice.slicePlaces (Builtin.Slice.sliceAdjust none none c items.size).1 (Builtin.Slice.sliceAdjust none none c items.size).2 c) == items.size) = true then _ else _) _ _ s
  rw [if_neg no, pick_eq]
  first
    | exact wpAny_bind (m := Builtin.Tuple.tupleExact _) (wpAny_newObj_type (wpAny_pure ⟨_, rfl, wpAny_pure h⟩) fits)
    | exact wpAny_bind (m := Builtin.Tuple.tupleExact _) (wpAny_newObj_type (wpAny_bind (wpAny_pure (wpAny_pure ⟨_, rfl, wpAny_pure h⟩))) fits)
    | exact wpAny_bind (m := Builtin.Tuple.tupleExact _) (wpAny_newObj_type (wpAny_bind (wpAny_pure (wpAny_bind (wpAny_pure (wpAny_pure ⟨_, rfl, wpAny_pure h⟩)))) fits))
end
theorem vals_pick {vs : List V} {us : List Value} (r : Vals vs us) : ∀ js : List Nat, Vals (js.filterMap fun j => vs[j]?) (js.filterMap fun j => us[j]?)
  | [] => .nil
  | j :: js => by
    rw [List.filterMap_cons, List.filterMap_cons]
    cases h : vs[j]? with
    | none =>
      have : us[j]? = none := by
        rw [List.getElem?_eq_none_iff] at h ⊢
        rw [← r.length]; exact h
      rw [this]
      exact vals_pick r js
    | some x =>
      obtain ⟨u, e, rx⟩ := r.get h
      rw [e]
      exact .cons rx (vals_pick r js)
theorem places_le {c : Int} (h : c = -1 ∨ 2 ≤ c) (n : Nat) : Builtin.Slice.slicePlaces (Builtin.Slice.sliceAdjust none none c n).1 (Builtin.Slice.sliceAdjust none none c n).2 c ≤ n := by
  rcases h with rfl | h
  · unfold Builtin.Slice.sliceAdjust Builtin.Slice.slicePlaces
    simp only [show ((-1 : Int) < 0) from by decide, if_true, show ¬ ((-1 : Int) > 0) from by decide, if_false]
    split
    · have : ((n : Int) - 1 - -1 - 1) / (- -1) = (n : Int) - 1 := by rw [show (- -1 : Int) = 1 from rfl, Int.ediv_one]; omega
      rw [this]; omega
    · omega
  · unfold Builtin.Slice.sliceAdjust Builtin.Slice.slicePlaces
    have h1 : ¬ (c < 0) := by omega
    have h2 : c > 0 := by omega
    simp only [h1, if_false, h2, if_true]
    split
    · rename_i h3
      have : ((n : Int) - 0 - 1) / c ≤ (n : Int) - 0 - 1 := Int.ediv_le_self _ (by omega)
      omega
    · omega
/-- t[::c] -/
def tStepT (K : PySem.W.Frag) (c : Int) (te : TE) : TE := fun σ H Q => te σ H fun x H1 => ∃ a xs, x = .ref a ∧ SqT K H1 a xs ∧ ∀ p, H1 p = none → Q (.ref p) (upd H1 p (.tup (pickT c xs)))
section
variable {X : Cx}
theorem pe_stepT {e es : Expr} {te ts : TE} {c : Int} {p3 pos : Pos} (hc : c = -1 ∨ 2 ≤ c) (he : PE X e te) (hst : PO X (some es) (tPart ts)) (ht : ∀ σ H Q, (∃ i, Q (.int c) H ∧ i = c) → ts σ H Q)
    : PE X (.Subscript e (.Slice none none (some es) p3) pos) (tStepT X.K c te) := by
  refine ⟨fun pins s σ H Q I h => ?_⟩
  refine Subscript_ (thn (he.run pins s σ H _ I h) fun v s1 ⟨x, H1, I1, r1, q1⟩ => ?_)
  obtain ⟨a, xs, ex, hx, q⟩ := q1
  subst ex
  cases r1
  refine wpAny_Slice (thn (po_none.run pins s1 σ H1 (fun o H2 => o = none ∧ H2 = H1) I1 ⟨rfl, rfl⟩) fun vl s2 ⟨l, H2, I2, pl, el, e2⟩ => ?_)
  subst el e2
  refine thn (po_none.run pins s2 σ H2 (fun o H3 => o = none ∧ H3 = H2) I2 ⟨rfl, rfl⟩) fun vu s3 ⟨u, H3, I3, pu, eu, e3⟩ => ?_
  subst eu e3
  refine thn (hst.run pins s3 σ H3 (fun o H4 => o = some c ∧ H4 = H3) I3 (ht _ _ _ ⟨c, ⟨c, rfl, rfl, rfl⟩, rfl⟩)) fun vs s4 ⟨o, H4, I4, ps, eo, e4⟩ => ?_
  subst eo e4
  have I5 : Inv X pins σ H4 { s4 with heap := s4.heap.push { cls := .type "slice", data := .fields #[vl, vu, vs] } } := I4.kept (t' := s4.toks) fun b ob q => Heap.get?_push_of_some _ q
  obtain ⟨its, r, ht, hz⟩ := I5.tuple hx
  have hlen := r.length
  cases pl
  cases pu
  show wpAny (model X.prog X.w) X.A (subscriptTail e (.Slice none none (some es) p3) (.ref a) (.ref s4.heap.objs.size)) (EP X pins σ Q) X.xe { s4 with heap := s4.heap.push { cls := .type "slice", data := .fields #[.none, .none, vs] } }
  refine tail_any (ops := [.ref a, .ref s4.heap.objs.size]) ht.typeIs (PyProof.Rows.slot_tuple_getitem.lookup) ?_ (by with_unfolding_all rfl)
  refine getItem_tuple_step ht (Heap.IsSliceOf.new _ .none .none vs) ps (by omega) (by omega) (by rw [List.size_toArray]; exact places_le hc _) ?_ (by rw [List.size_toArray, ← hlen]; exact hz)
  have e2 : (pickT c its.toArray.toList) = pickT c its := rfl
  rw [e2]
  refine ⟨.ref _, _, I5.laid (t' := s4.toks) (o := .tup (pickT c xs)) (fun b ob q => Heap.get?_push_of_some _ q) (Nat.le_refl _) ?_, rfl, q _ (I5.hok.fresh (Nat.le_refl _))⟩
  refine ⟨Nat.le_trans (pick_len c xs (places_le hc _)) hz, _, ?_, IsTup.new _ _⟩
  unfold pickT
  rw [hlen]
  exact vals_pick r _
end
section
variable {X : Cx} {K : PySem.W.Frag} {a b : Expr} {ma : ME}
theorem rep_pick {F : Hp} {vs : List V} {ds : List D} (r : RepL K F vs ds) : ∀ js : List Nat, RepL K F (js.filterMap fun j => vs[j]?) (js.filterMap fun j => ds[j]?)
  | [] => .nil
  | j :: js => by
    rw [List.filterMap_cons, List.filterMap_cons]
    cases h : vs[j]? with
    | none =>
      have : ds[j]? = none := by
        rw [List.getElem?_eq_none_iff] at h ⊢
        rw [← r.length]; exact h
      rw [this]
      exact rep_pick r js
    | some x =>
      obtain ⟨u, e, rx⟩ := r.at' h
      rw [e]
      exact .cons rx (rep_pick r js)
def dStepT (c : Int) : D → Option D
  | .tup xs => some (.tup (pickT c xs))
  | _ => none
theorem r_stepT {e es : Expr} {ts : TE} {c : Int} {p3 pos : Pos} (hc : c = -1 ∨ 2 ≤ c) (ha : PE X a (rdB X.K ma)) (hst : PO X (some es) (tPart ts)) (ht : ∀ σ H Q, (∃ i, Q (.int c) H ∧ i = c) → ts σ H Q) :
    PE X (.Subscript a (.Slice none none (some es) p3) pos) (rdE X.K (mUn (dStepT c) ma)) :=
  PE.wk (pe_stepT hc ha hst ht) fun σ H Q ⟨H0, F, Γ, d, R, z, q⟩ => by
    obtain ⟨dx, ex, z⟩ := Option.bind_eq_some_iff.mp z
    refine ⟨H0, F, Γ, dx, R, ex, fun x H1 F1 E1 rx => ?_⟩
    unfold dStepT at z
    split at z
    · cases z
      obtain ⟨p, vs, rfl, h1, r1⟩ := rx.tup
      refine ⟨p, vs, rfl, .of (E1.fh _ _ h1), fun t nt => ?_⟩
      have E4 := Ext.laid E1.fh (o := .tup (pickT c vs)) nt
      rename_i xs
      have rp : RepL X.K F1 (pickT c vs) (pickT c xs) := by
        unfold pickT
        rw [r1.length]
        exact rep_pick r1 _
      exact q _ _ _ (E1.trans E4) (.ob upd_same (.tup (rp.mono E4.f)))
    · cases z
/-- xs[::-1] of a list or a tuple -/
def dRevA (d : D) : Option D := match dRevL d with
  | some e => some e
  | none => dStepT (-1) d
theorem r_revA {k : Nat} {p1 p2 p3 pos : Pos} (ha : PE X a (rdB X.K ma)) : PE X (.Subscript a (.Slice none none (some (.UnaryOp .USub (.Constant (.int 1) k p1) p2)) p3) pos) (rdE X.K (mUn dRevA ma)) :=
  PE.wk (PE_or (r_rev ha) (r_stepT (e := a) (c := -1) (.inl rfl) ha (po_some (pe_un un_neg pe_int)) fun σ H Q ⟨i, h, _⟩ => ⟨1, rfl, h⟩)) fun σ H Q ⟨H0, F, Γ, d, R, z, q⟩ => by
    obtain ⟨dx, ex, z⟩ := Option.bind_eq_some_iff.mp z
    unfold dRevA at z
    split at z
    · rename_i e he
      cases z
      exact .inl ⟨H0, F, Γ, _, R, Option.bind_eq_some_iff.mpr ⟨dx, ex, he⟩, q⟩
    · exact .inr ⟨H0, F, Γ, _, R, Option.bind_eq_some_iff.mpr ⟨dx, ex, z⟩, q⟩
theorem r_step {k : Nat} {c : Int} {p1 p3 pos : Pos} (hc : 2 ≤ c) (ha : PE X a (rdB X.K ma)) : PE X (.Subscript a (.Slice none none (some (.Constant (.int c) k p1)) p3) pos) (rdE X.K (mUn (dStepT c) ma)) :=
  r_stepT (e := a) (.inr hc) ha (po_some pe_int) fun σ H Q ⟨i, h, _⟩ => h
end
/-! ### t * k, any small k -/
theorem tuple_mulS (l : Addr) (items : Array Value) (n : Nat) (dd : Option Addr) (sl : Array (Option Value)) (x : Int) (u : Tok) (c0 : (decide (x < -(2 ^ 63)) || decide (x ≥ 2 ^ 63)) = false) (c1 : (items.isEmpty || x == 1) = true) :
    Meets (Builtin.«tuple.__mul__» ⟨[.ref l, .int x u], []⟩) (fun _ R s => s.heap.get? l = some { cls := .type "tuple", dict := dd, data := .seq items n, slots := sl } ∧
      R (.ok (.ret (Value.ref l))) s) :=
  .of_wp fun prog w A R s h => by
    obtain ⟨hp, g, d, tk, os⟩ := s
    obtain ⟨hl, h⟩ := h
    have f1 := AutoSeq1.idx_int
    wp_walk using AutoSeq1.wpAny_loadPart' hl
    repeat (first
      | (refine wpAny_ite_false (decide_eq_false (by rw [c0]; exact Bool.false_ne_true)) ?_; wp_walk using AutoSeq1.wpAny_loadPart' hl)
      | (refine wpAny_ite_true (decide_eq_true c1) ?_; wp_walk using AutoSeq1.wpAny_loadPart' hl))
    exact ⟨_, rfl, h⟩
theorem tuple_mulE (l : Addr) (items : Array Value) (n : Nat) (dd : Option Addr) (sl : Array (Option Value)) (x : Int) (u : Tok) (c0 : (decide (x < -(2 ^ 63)) || decide (x ≥ 2 ^ 63)) = false) (c1 : (items.isEmpty || x == 1) = false) (c2 : (decide (x ≤ 0) || items.isEmpty) = true) :
    Meets (Builtin.«tuple.__mul__» ⟨[.ref l, .int x u], []⟩) (fun _ R s => s.heap.get? l = some { cls := .type "tuple", dict := dd, data := .seq items n, slots := sl } ∧
      R (.ok (.ret (Value.ref s.heap.objs.size))) { s with heap := s.heap.push { cls := Value.type "tuple", data := Data.seq #[] }, toks := s.toks }) :=
  .of_wp fun prog w A R s h => by
    obtain ⟨hp, g, d, tk, os⟩ := s
    obtain ⟨hl, h⟩ := h
    have f1 := AutoSeq1.idx_int
    wp_walk using AutoSeq1.wpAny_loadPart' hl
    repeat (first
      | (refine wpAny_ite_false (decide_eq_false (by rw [c0]; exact Bool.false_ne_true)) ?_; wp_walk using AutoSeq1.wpAny_loadPart' hl)
      | (refine wpAny_ite_false (decide_eq_false (by rw [c1]; exact Bool.false_ne_true)) ?_; wp_walk using AutoSeq1.wpAny_loadPart' hl)
      | (refine wpAny_ite_true (decide_eq_true c2) ?_; wp_walk using AutoSeq1.wpAny_loadPart' hl))
    exact ⟨_, rfl, h⟩
def rRepA (K : PySem.W.Frag) : R2 := fun x y H Q => ∃ l k xs, x = .ref l ∧ y = .int k ∧ SqT K H l xs ∧ -1000 ≤ k ∧ k ≤ 1000 ∧ xs.length ≤ 1000 ∧ (k = 1 ∨ xs = [] → Q (.ref l) H) ∧ (¬ (k = 1 ∨ xs = []) → ∀ p, H p = none → Q (.ref p) (upd H p (.tup (List.replicate k.toNat xs).flatten)))
theorem op_repA {X : Cx} : OpR X (binaryOp .Mult) (rRepA X.K) := by
  intro pins s σ H x y v u Q I rx ry h
  obtain ⟨l, k, xs, rfl, rfl, hT, h1, h2, hz, q1, q2⟩ := h
  by_cases w : 2 ≤ k ∧ xs ≠ []
  · exact op_repT pins s σ H _ _ v u Q I rx ry ⟨l, k, xs, rfl, rfl, hT, w.2, w.1, h2, hz, q2 (fun z => z.elim (fun z => by omega) w.2)⟩
  cases rx
  obtain ⟨t, rfl⟩ := ry
  obtain ⟨its, r, ⟨⟨cls, dd, data, sl⟩, ho, hc, n, hd⟩, hs⟩ := I.tuple hT
  simp only at hc hd
  subst hc hd
  have hle : its.length = xs.length := r.length.symm
  have c0 : (decide (k < -(2 ^ 63)) || decide (k ≥ 2 ^ 63)) = false := by
    rw [decide_eq_false (by omega), decide_eq_false (by omega)] <;> rfl
  by_cases w1 : k = 1 ∨ xs = []
  · have c1 : (its.toArray.isEmpty || k == 1) = true := by
      rcases w1 with rfl | rfl
      · rw [Bool.or_eq_true]; exact .inr rfl
      · have : its = [] := List.eq_nil_of_length_eq_zero (by rw [hle]; rfl)
        subst this; rfl
    refine wpAny_binaryOp_repeat_ref (T := "tuple") (U := "int") (by decide) ⟨_, ho, rfl⟩ (fun s' => typeIs_int s' k t) noFill_tuple_mul F.fills_int_mul F.slot_int_rmul repeat_tuple F.slot_int_index.lookup
      (call_meets F.slot_int_rmul (typeIs_int s k t) F.entry_int_rmul (F.args_int_rmul_2 _ _) (int_rmul_tuple k t l its.toArray n dd sl)
        ⟨ho, rfl, ⟨_, ho, rfl⟩, call_meets F.slot_tuple_mul ⟨_, ho, rfl⟩ F.entry_tuple_mul (F.args_tuple_mul_2 _ _) (tuple_mulS l its.toArray n dd sl k t c0 c1) ⟨ho, ?_⟩⟩)
    exact ⟨.ref l, H, I, rfl, q1 w1⟩
  · have k0 : k ≤ 0 := by
      by_cases z : 2 ≤ k
      · exact absurd ⟨z, fun e => w1 (.inr e)⟩ w
      · have : k ≠ 1 := fun e => w1 (.inl e)
        omega
    have hi : its.toArray.isEmpty = false := by
      cases its with
      | nil => exact absurd (List.eq_nil_of_length_eq_zero hle.symm) (fun e => w1 (.inr e))
      | cons a b => rfl
    have c1 : (its.toArray.isEmpty || k == 1) = false := by
      rw [hi, Bool.false_or]
      exact beq_eq_false_iff_ne.mpr (by omega)
    have c2 : (decide (k ≤ 0) || its.toArray.isEmpty) = true := by rw [decide_eq_true k0, Bool.true_or]
    refine wpAny_binaryOp_repeat_ref (T := "tuple") (U := "int") (by decide) ⟨_, ho, rfl⟩ (fun s' => typeIs_int s' k t) noFill_tuple_mul F.fills_int_mul F.slot_int_rmul repeat_tuple F.slot_int_index.lookup
      (call_meets F.slot_int_rmul (typeIs_int s k t) F.entry_int_rmul (F.args_int_rmul_2 _ _) (int_rmul_tuple k t l its.toArray n dd sl)
        ⟨ho, rfl, ⟨_, ho, rfl⟩, call_meets F.slot_tuple_mul ⟨_, ho, rfl⟩ F.entry_tuple_mul (F.args_tuple_mul_2 _ _) (tuple_mulE l its.toArray n dd sl k t c0 c1 c2) ⟨ho, ?_⟩⟩)
    have e0 : (List.replicate k.toNat xs).flatten = [] := by rw [show k.toNat = 0 by omega]; rfl
    have q2 := q2 w1
    rw [e0] at q2
    exact ⟨.ref s.heap.objs.size, _, I.laid (t' := s.toks) (o := .tup []) (fun b ob q => Heap.get?_push_of_some _ q) (Nat.le_refl _) ⟨Nat.zero_le _, [], .nil, IsTup.new _ _⟩, rfl, q2 _ (I.hok.fresh (Nat.le_refl _))⟩
def dRepT : D → D → Option D
  | .tup xs, .int k => if -1000 ≤ k ∧ k ≤ 1000 ∧ xs.length ≤ 1000 then some (.tup (List.replicate k.toNat xs).flatten) else none
  | _, _ => none
theorem rep_one {α : Type} {xs : List α} {k : Int} (h : k = 1 ∨ xs = []) : (List.replicate k.toNat xs).flatten = xs := by
  rcases h with rfl | rfl
  · show [xs].flatten = xs
    rw [List.flatten_cons, List.flatten_nil, List.append_nil]
  · generalize k.toNat = n
    induction n with
    | zero => rfl
    | succ n ih => rw [List.replicate_succ, List.flatten_cons, ih]; rfl
theorem d_repT {K : PySem.W.Frag} : Op2 K dRepT (rRepA K) := by
  intro F H x y dx dy d Q s rx ry e q
  unfold dRepT at e
  split at e
  · rename_i xs k
    obtain ⟨c, rfl⟩ := if_some e
    obtain ⟨a, vs, rfl, h1, r1⟩ := rx.tup
    have hl : vs.length ≤ 1000 := by rw [r1.length]; exact c.2.2
    refine ⟨a, k, vs, rfl, ry.int, .of (s _ _ h1), c.1, c.2.1, hl, fun w => ?_, fun w p np => ?_⟩
    · refine q _ H F (.refl s) (.ob h1 (.tup ?_))
      rw [rep_one (by
        rcases w with w | w
        · exact .inl w
        · right
          subst w
          exact List.eq_nil_of_length_eq_zero r1.length.symm)]
      exact r1
    · have E4 := Ext.laid s (o := .tup (List.replicate k.toNat vs).flatten) np
      exact q _ _ _ E4 (.ob upd_same (.tup ((r1.flatRep _).mono E4.f)))
  · cases e
end SK

set_option Elab.async false
set_option linter.all false
set_option maxRecDepth 100000
set_option maxHeartbeats 4000000
set_option autoImplicit false
namespace SK
open PySem PySem.Spec PyProof.Rows L2
/-! ### typed: slices with a step, a tuple times an int -/
theorem pick_map {α β : Type} (c : Int) (f : α → β) (xs : List α) : pickT c (xs.map f) = (pickT c xs).map f := by
  unfold pickT
  rw [List.length_map, List.map_filterMap]
  congr 1
  funext j
  rw [List.getElem?_map]
theorem fm_congr {α β : Type} {f g : α → Option β} : ∀ {xs : List α}, (∀ x ∈ xs, f x = g x) → xs.filterMap f = xs.filterMap g
  | [], _ => rfl
  | x :: xs, h => by rw [List.filterMap_cons, List.filterMap_cons, h x List.mem_cons_self, fm_congr fun y hy => h y (List.mem_cons_of_mem _ hy)]
theorem all_get {α : Type} : ∀ ys : List α, (List.range ys.length).filterMap (fun k => ys[k]?) = ys
  | [] => rfl
  | y :: ys => by
    rw [List.length_cons, List.range_succ_eq_map, List.filterMap_cons, List.filterMap_map]
    show y :: _ = _
    congr 1
    exact all_get ys
theorem pick_rev {α : Type} (xs : List α) : pickT (-1) xs = xs.reverse := by
  unfold pickT pickN
  have e : Builtin.Slice.slicePlaces (Builtin.Slice.sliceAdjust none none (-1) xs.length).1 (Builtin.Slice.sliceAdjust none none (-1) xs.length).2 (-1) = xs.length := by
    unfold Builtin.Slice.sliceAdjust Builtin.Slice.slicePlaces
    simp only [show ((-1 : Int) < 0) from by decide, if_true, show ¬ ((-1 : Int) > 0) from by decide, if_false]
    split
    · have : ((xs.length : Int) - 1 - -1 - 1) / (- -1) = (xs.length : Int) - 1 := by rw [show (- -1 : Int) = 1 from rfl, Int.ediv_one]; omega
      rw [this]; omega
    · omega
  rw [e, List.filterMap_map]
  conv => rhs; rw [← all_get xs.reverse, List.length_reverse]
  refine fm_congr fun k hk => ?_
  have hk := List.mem_range.mp hk
  rw [List.getElem?_reverse hk]
  show xs[((Builtin.Slice.sliceAdjust none none (-1) (xs.length : Int)).1 + (k : Int) * -1).toNat]? = _
  congr 1
  show ((xs.length : Int) - 1 + (k : Int) * -1).toNat = _
  omega
noncomputable def tRevA {α : Type} (xs : List α) : List α → List α := List.rec (motive := fun _ => List α → List α) (fun ys => ys) (fun x _ ih ys => ih (x :: ys)) xs
theorem tRevA_eq {α : Type} : ∀ xs ys : List α, tRevA xs ys = xs.reverse ++ ys
  | [], _ => rfl
  | x :: xs, ys => by
    show tRevA xs (x :: ys) = _
    rw [tRevA_eq xs, List.reverse_cons, List.append_assoc]; rfl
noncomputable def tRev {α : Type} (xs : List α) : List α := tRevA xs []
theorem tRev_eq {α : Type} (xs : List α) : tRev xs = xs.reverse := by
  unfold tRev; rw [tRevA_eq, List.append_nil]
/-- every second -/
noncomputable def tHalf {α : Type} (xs : List α) : List α := List.rec (motive := fun _ => Bool → List α) (fun _ => []) (fun x _ ih b => bIf b (x :: ih false) (ih true)) xs true
theorem half_get {α : Type} : ∀ xs : List α, (List.range ((xs.length + 1) / 2)).filterMap (fun k => xs[2 * k]?) = tHalf xs
  | [] => by rw [show (([] : List α).length + 1) / 2 = 0 from by simp]; rfl
  | [x] => by rw [show ([x].length + 1) / 2 = 1 from by simp]; rfl
  | x :: y :: r => by
    have e : ((x :: y :: r).length + 1) / 2 = (r.length + 1) / 2 + 1 := by rw [List.length_cons, List.length_cons]; omega
    rw [e, List.range_succ_eq_map, List.filterMap_cons, List.filterMap_map]
    show x :: _ = x :: tHalf r
    congr 1
    rw [← half_get r]
    refine fm_congr fun k _ => ?_
    show (x :: y :: r)[2 * (k + 1)]? = _
    rw [show 2 * (k + 1) = 2 * k + 1 + 1 by omega, List.getElem?_cons_succ, List.getElem?_cons_succ]
theorem pick_half {α : Type} (xs : List α) : pickT 2 xs = tHalf xs := by
  rw [← half_get]
  unfold pickT pickN
  have e : Builtin.Slice.slicePlaces (Builtin.Slice.sliceAdjust none none 2 xs.length).1 (Builtin.Slice.sliceAdjust none none 2 xs.length).2 2 = (xs.length + 1) / 2 := by
    unfold Builtin.Slice.sliceAdjust Builtin.Slice.slicePlaces
    simp only [show ¬ ((2 : Int) < 0) from by decide, if_true, show ((2 : Int) > 0) from by decide, if_false]
    split
    · omega
    · omega
  rw [e, List.filterMap_map]
  refine fm_congr fun k _ => ?_
  show xs[((Builtin.Slice.sliceAdjust none none 2 (xs.length : Int)).1 + (k : Int) * 2).toNat]? = _
  congr 1
  show ((0 : Int) + (k : Int) * 2).toNat = _
  omega
section
variable {α β : Type} {ss : Sp} {a b : ME} {e : α → D} {f : β → D} {x : α} {xs : List α}
theorem Eg.revT (h : Eg ss a (eT e xs)) : Eg ss (mUn dRevA a) (eT e (tRev xs)) := fun Γ m => by
  unfold mUn
  rw [h Γ m]
  show dRevA (eT e xs) = _
  show some (D.tup (pickT (-1) (xs.map e))) = _
  rw [pick_rev, tRev_eq, ← List.map_reverse]; rfl
theorem Eg.revL (h : Eg ss a (eL e xs)) : Eg ss (mUn dRevA a) (eL e (tRev xs)) := fun Γ m => by
  unfold mUn
  rw [h Γ m]
  show some (D.lst (xs.map e).reverse) = _
  rw [tRev_eq, ← List.map_reverse]; rfl
theorem Eg.halfT (h : Eg ss a (eT e xs)) : Eg ss (mUn (dStepT 2) a) (eT e (tHalf xs)) := fun Γ m => by
  unfold mUn
  rw [h Γ m]
  show some (D.tup (pickT 2 (xs.map e))) = _
  rw [pick_map, pick_half]; rfl
noncomputable def yRepT (xs : List α) (k : Int) : Option (List α) := bIf (bAnd (iLe (.negSucc 999) k) (bAnd (iLe k (.ofNat 1000)) (Nat.ble (tLenN xs) 1000))) (some (tRepF xs k.toNat)) none
theorem Eo.repT {k : Int} (ha : Eg ss a (eT e xs)) (hb : Eg ss b (eI k)) : Eo ss (mBin dRepT a b) (eT e) (yRepT xs k) := fun z h => by
  unfold yRepT at h
  obtain ⟨c, h⟩ := bIf_some h
  cases h
  simp only [bAnd_eq, iLe_eq, Bool.and_eq_true, decide_eq_true_eq, Nat.ble_eq, tLenN_eq] at c
  refine Eg.bin ha hb ?_
  show (if -1000 ≤ k ∧ k ≤ 1000 ∧ (xs.map e).length ≤ 1000 then some (D.tup (List.replicate k.toNat (xs.map e)).flatten) else none) = _
  rw [if_pos ⟨c.1, c.2.1, by rw [List.length_map]; exact c.2.2⟩, tRepF_eq]
  show some (D.tup _) = some (D.tup _)
  rw [List.map_flatten, List.map_replicate]
end
end SK

set_option Elab.async false
set_option linter.all false
set_option maxRecDepth 100000
set_option maxHeartbeats 4000000
set_option autoImplicit false
namespace SK
open PySem PySem.Spec PyProof.Rows L2

/-! ### dicts: keys and values in two lists -/
section
variable {α κ : Type} [DecidableEq α] [DecidableEq κ] {K : PySem.W.Frag} {F : Hp}
def fnd : List α → List D → α → Option D
  | k :: ks, d :: ds, j => if k = j then some d else fnd ks ds j
  | _, _, _ => none
def repD : List α → List D → α → D → List D
  | k :: ks, x :: ds, j, d => (if k = j then d else x) :: repD ks ds j d
  | _, ds, _, _ => ds
def putKs (ks : List α) (j : α) : List α := if j ∈ ks then ks else ks ++ [j]
def putDs (ks : List α) (ds : List D) (j : α) (d : D) : List D := if j ∈ ks then repD ks ds j d else ds ++ [d]
theorem any_mem {c : α → κ} (inj : ∀ a b, c a = c b → a = b) (j : α) : ∀ {kvs : List (κ × V)} {ks : List α}, kvs.map Prod.fst = ks.map c → (kvs.any fun kv => decide (kv.1 = c j)) = decide (j ∈ ks)
  | [], [], _ => rfl
  | [], _ :: _, h => nomatch h
  | _ :: _, [], h => nomatch h
  | p :: kvs, k :: ks, h => by
    simp only [List.map_cons, List.cons.injEq] at h
    rw [List.any_cons, any_mem inj j h.2, h.1]
    by_cases e : k = j
    · subst e; simp
    · have e' : ¬ c k = c j := fun z => e (inj _ _ z)
      have e2 : ¬ j = k := fun z => e z.symm
      simp [e', e2]
theorem fnd_some {c : α → κ} (inj : ∀ a b, c a = c b → a = b) (j : α) : ∀ {kvs : List (κ × V)} {ks : List α} {ds : List D} {d : D}, kvs.map Prod.fst = ks.map c → RepL K F (kvs.map Prod.snd) ds → fnd ks ds j = some d → ∃ v, valV kvs (c j) = some v ∧ Rep K F v d
  | [], [], _, _, _, _, e => nomatch e
  | [], _ :: _, _, _, h, _, _ => nomatch h
  | _ :: _, [], _, _, h, _, _ => nomatch h
  | p :: kvs, k :: ks, _, d, h, .cons r rr, e => by
    simp only [List.map_cons, List.cons.injEq] at h
    unfold fnd at e
    by_cases q : k = j
    · rw [if_pos q] at e
      cases e
      exact ⟨p.2, valV_pos (by rw [h.1, q]), r⟩
    · rw [if_neg q] at e
      obtain ⟨v, h1, h2⟩ := fnd_some inj j h.2 rr e
      exact ⟨v, by rw [valV_neg (by rw [h.1]; exact fun z => q (inj _ _ z))]; exact h1, h2⟩
theorem fnd_none {c : α → κ} (inj : ∀ a b, c a = c b → a = b) (j : α) : ∀ {kvs : List (κ × V)} {ks : List α} {ds : List D}, kvs.map Prod.fst = ks.map c → RepL K F (kvs.map Prod.snd) ds → fnd ks ds j = none → valV kvs (c j) = none
  | [], [], _, _, _, e => rfl
  | [], _ :: _, _, h, _, _ => nomatch h
  | _ :: _, [], _, h, _, _ => nomatch h
  | p :: kvs, k :: ks, _, h, .cons r rr, e => by
    simp only [List.map_cons, List.cons.injEq] at h
    unfold fnd at e
    by_cases q : k = j
    · rw [if_pos q] at e; cases e
    · rw [if_neg q] at e
      rw [valV_neg (by rw [h.1]; exact fun z => q (inj _ _ z))]
      exact fnd_none inj j h.2 rr e
theorem rep_put {c : α → κ} (inj : ∀ a b, c a = c b → a = b) (j : α) {v : V} {d : D} (rv : Rep K F v d) : ∀ {kvs : List (κ × V)} {ks : List α} {ds : List D}, kvs.map Prod.fst = ks.map c → RepL K F (kvs.map Prod.snd) ds →
    (kvs.map fun kv => if kv.1 = c j then (kv.1, v) else kv).map Prod.fst = ks.map c ∧ RepL K F ((kvs.map fun kv => if kv.1 = c j then (kv.1, v) else kv).map Prod.snd) (repD ks ds j d)
  | [], [], _, _, .nil => ⟨rfl, .nil⟩
  | [], _ :: _, _, h, _ => nomatch h
  | _ :: _, [], _, h, _ => nomatch h
  | p :: kvs, k :: ks, _, h, .cons r rr => by
    simp only [List.map_cons, List.cons.injEq] at h
    obtain ⟨h1, h2⟩ := rep_put inj j rv h.2 rr
    unfold repD
    by_cases q : k = j
    · have e : p.1 = c j := by rw [h.1, q]
      rw [if_pos q, List.map_cons, if_pos e]
      exact ⟨by rw [List.map_cons, List.map_cons, h1, h.1], .cons rv h2⟩
    · have e : ¬ p.1 = c j := by rw [h.1]; exact fun z => q (inj _ _ z)
      rw [if_neg q, List.map_cons, if_neg e]
      exact ⟨by rw [List.map_cons, List.map_cons, h1, h.1], .cons r h2⟩
theorem put_rep {c : α → κ} (inj : ∀ a b, c a = c b → a = b) (j : α) {v : V} {d : D} (rv : Rep K F v d) {kvs : List (κ × V)} {ks : List α} {ds : List D} (h : kvs.map Prod.fst = ks.map c) (r : RepL K F (kvs.map Prod.snd) ds) :
    (putK kvs (c j) v).map Prod.fst = (putKs ks j).map c ∧ RepL K F ((putK kvs (c j) v).map Prod.snd) (putDs ks ds j d) := by
  unfold putK putKs putDs
  rw [any_mem inj j h]
  by_cases m : j ∈ ks
  · rw [if_pos (decide_eq_true m), if_pos m, if_pos m]
    exact rep_put inj j rv h r
  · rw [if_neg (by rw [decide_eq_false m]; decide), if_neg m, if_neg m]
    refine ⟨by rw [List.map_append, List.map_append, h]; rfl, ?_⟩
    rw [List.map_append]
    exact r.append (.cons rv .nil)
end
theorem inl_inj (a b : Int) (h : (Sum.inl a : L2.Key) = .inl b) : a = b := Sum.inl.inj h
theorem inls_inj : ∀ (a b : List Int), a.map (Sum.inl : Int → L2.Key) = b.map Sum.inl → a = b
  | [], [], _ => rfl
  | [], _ :: _, h => nomatch h
  | _ :: _, [], h => nomatch h
  | x :: xs, y :: ys, h => by
    simp only [List.map_cons, List.cons.injEq] at h
    rw [inl_inj _ _ h.1, inls_inj xs ys h.2]
section
variable {K : PySem.W.Frag} {F H : Hp}
theorem Rep.dicI {v : V} {ks : List Int} {ds : List D} (r : Rep K F v (.dic ks ds)) : ∃ a o kvs, v = .ref a ∧ F a = some (.frz o (.dK kvs)) ∧ kvs.map Prod.fst = ks.map Sum.inl ∧ RepL K F (kvs.map Prod.snd) ds := by
  cases r with
  | ob h q => cases q with | dic e f q => subst f; exact ⟨_, _, _, rfl, h, e, q⟩
theorem Rep.ditI {v : V} {ks : List (List Int)} {ds : List D} (r : Rep K F v (.dit ks ds)) : ∃ a o kvs, v = .ref a ∧ F a = some (.frz o (.dT kvs)) ∧ kvs.map Prod.fst = ks.map (List.map Sum.inl) ∧ RepL K F (kvs.map Prod.snd) ds := by
  cases r with
  | ob h q => cases q with | dit e f q => subst f; exact ⟨_, _, _, rfl, h, e, q⟩
theorem RepB.dicI (s : Same F H) {v : V} {ks : List Int} {ds : List D} (r : RepB K F H v (.dic ks ds)) : ∃ a kvs, v = .ref a ∧ Rd H a (.dK kvs) ∧ kvs.map Prod.fst = ks.map Sum.inl ∧ RepL K F (kvs.map Prod.snd) ds := by
  rcases r with r | ⟨_, a, o, rfl, h, q⟩
  · obtain ⟨a, o, kvs, rfl, h, e, q⟩ := r.dicI
    exact ⟨a, kvs, rfl, .inr ⟨o, s _ _ h⟩, e, q⟩
  · cases q with | dic e f q => subst f; exact ⟨a, _, rfl, .inl h, e, q⟩
theorem RepB.ditI (s : Same F H) {v : V} {ks : List (List Int)} {ds : List D} (r : RepB K F H v (.dit ks ds)) : ∃ a kvs, v = .ref a ∧ Rd H a (.dT kvs) ∧ kvs.map Prod.fst = ks.map (List.map Sum.inl) ∧ RepL K F (kvs.map Prod.snd) ds := by
  rcases r with r | ⟨_, a, o, rfl, h, q⟩
  · obtain ⟨a, o, kvs, rfl, h, e, q⟩ := r.ditI
    exact ⟨a, kvs, rfl, .inr ⟨o, s _ _ h⟩, e, q⟩
  · cases q with | dit e f q => subst f; exact ⟨a, _, rfl, .inl h, e, q⟩
/-- what a dict holds at a key: none, the key is no key; some none, nothing there -/
def dAt : D → D → Option (Option D)
  | .dic ks ds, .int k => some (fnd ks ds k)
  | .dit ks ds, .tup xs => (intsOf xs).map fun k => fnd ks ds k
  | _, _ => none
theorem map_kV (ns : List Int) : (ns.map (Sum.inl : Int → L2.Key)).map kV = ns.map V.int := by
  rw [List.map_map]; rfl
theorem dget_at (s : Same F H) {x y : V} {dx dy : D} {o : Option D} (rx : RepB K F H x dx) (ry : RepB K F H y dy) (e : dAt dx dy = some o) :
    ∃ a r, x = .ref a ∧ IsD H a ∧ DGet H a y r ∧ (∀ d, o = some d → ∃ v, r = some v ∧ Rep K F v d) ∧ (o = none → r = none) := by
  unfold dAt at e
  split at e
  · cases e
    obtain ⟨a, kvs, rfl, hd, e1, r1⟩ := rx.dicI s
    rename_i ks ds k
    cases ry.int
    refine ⟨a, valV kvs (.inl k), rfl, .inl ⟨kvs, hd⟩, .inl ⟨kvs, .inl k, hd, rfl, rfl⟩, fun d hd' => ?_, fun hn => ?_⟩
    · exact fnd_some inl_inj k e1 r1 hd'
    · exact fnd_none inl_inj k e1 r1 hn
  · obtain ⟨k, ek, rfl⟩ := Option.map_eq_some_iff.mp e
    obtain ⟨a, kvs, rfl, hd, e1, r1⟩ := rx.ditI s
    obtain ⟨b, vs, rfl, hb, rb⟩ := ry.tup
    rw [ints_rep ek rb] at hb
    refine ⟨a, valV kvs (k.map .inl), rfl, .inr ⟨kvs, hd⟩, .inr ⟨kvs, k.map .inl, b, hd, rfl, by rw [map_kV]; exact s _ _ hb, rfl⟩, fun d hd' => ?_, fun hn => ?_⟩
    · exact fnd_some (c := List.map Sum.inl) inls_inj k e1 r1 hd'
    · exact fnd_none (c := List.map Sum.inl) inls_inj k e1 r1 hn
  · cases e
/-- d[k], k there -/
def dGetA (x y : D) : Option D := (dAt x y).bind fun o => o
def rDGet : R2 := fun x y H Q => ∃ a v, x = .ref a ∧ DGet H a y (some v) ∧ Q v H
theorem d_getA : Op2 K dGetA rDGet := by
  intro F H x y dx dy d Q s rx ry e q
  obtain ⟨o, e1, e2⟩ := Option.bind_eq_some_iff.mp e
  obtain ⟨a, r, rfl, _, h1, h2, _⟩ := dget_at s rx ry e1
  obtain ⟨v, rfl, rv⟩ := h2 d e2
  exact ⟨a, v, rfl, h1, q v H F (.refl s) rv⟩
/-- k in d -/
def dInD (y x : D) : Option D := (dAt x y).map fun o => .bl o.isSome
def dNotInD (y x : D) : Option D := (dAt x y).map fun o => .bl (!o.isSome)
def rDIn : R2 := fun y x H Q => ∃ a o, x = .ref a ∧ DGet H a y o ∧ Q (.bl o.isSome) H
def rDNotIn : R2 := fun y x H Q => ∃ a o, x = .ref a ∧ DGet H a y o ∧ Q (.bl (!o.isSome)) H
theorem some_at {o : Option D} {r : Option V} (h : ∀ d, o = some d → ∃ v, r = some v ∧ Rep K F v d) (n : o = none → r = none) : r.isSome = o.isSome := by
  cases o with
  | none => rw [n rfl]; rfl
  | some d => obtain ⟨v, rfl, _⟩ := h d rfl; rfl
theorem d_inD : Op2 K dInD rDIn := by
  intro F H y x dy dx d Q s ry rx e q
  obtain ⟨o, e1, rfl⟩ := Option.map_eq_some_iff.mp e
  obtain ⟨a, r, rfl, _, h1, h2, h3⟩ := dget_at s rx ry e1
  refine ⟨a, r, rfl, h1, ?_⟩
  rw [some_at h2 h3]
  exact q _ H F (.refl s) (.bl _)
theorem d_notInD : Op2 K dNotInD rDNotIn := by
  intro F H y x dy dx d Q s ry rx e q
  obtain ⟨o, e1, rfl⟩ := Option.map_eq_some_iff.mp e
  obtain ⟨a, r, rfl, _, h1, h2, h3⟩ := dget_at s rx ry e1
  refine ⟨a, r, rfl, h1, ?_⟩
  rw [some_at h2 h3]
  exact q _ H F (.refl s) (.bl _)
end
section
variable {X : Cx}
theorem op_inDic (hu : X.A.units + 1 < cLine) : OpR X (compareOp .In) rDIn := by
  intro pins s σ H y x v u Q I ry rx h
  obtain ⟨a, o, rfl, g, q⟩ := h
  obtain rfl : u = Value.ref a := rx
  exact L2.d_in hu I g ry fun s' I' => ⟨.bl o.isSome, H, I', rfl, q⟩
theorem op_notInDic (hu : X.A.units + 1 < cLine) : OpR X (compareOp .NotIn) rDNotIn := by
  intro pins s σ H y x v u Q I ry rx h
  obtain ⟨a, o, rfl, g, q⟩ := h
  obtain rfl : u = Value.ref a := rx
  exact L2.d_notIn hu I g ry fun s' I' => ⟨.bl (!o.isSome), H, I', rfl, q⟩
end
section
variable {X : Cx} {o i e f value tg : Expr} {pos pos' apos cpos : Pos} {mo mi me mf : ME}
/-- d[k] -/
theorem r_dget (hu : X.A.units + 1 < cLine) (ho : PE X o (rdB X.K mo)) (hi : PE X i (rdB X.K mi)) (hs : NoSl i := by exact fun _ _ => rfl) : PE X (.Subscript o i pos) (rdE X.K (mBin dGetA mo mi)) :=
  PE.wk (pe_dget hu ho hi hs) fun _ _ _ h => two (r := rDGet) d_getA h
/-- {} -/
theorem r_dnew : PE X (.Dict [] [] pos) (rdN X.K (mC (.dic [] []))) := PE.wk pe_dnewK fun σ H Q ⟨H0, F, Γ, d, R, z, q⟩ => by
  cases z
  exact fun p np => q p _ _ F (Ext.own R.fh np) np (R.fh.free np) upd_same rfl (.dic rfl rfl .nil)
theorem r_dnewT : PE X (.Dict [] [] pos) (rdN X.K (mC (.dit [] []))) := PE.wk pe_dnewT fun σ H Q ⟨H0, F, Γ, d, R, z, q⟩ => by
  cases z
  exact fun p np => q p _ _ F (Ext.own R.fh np) np (R.fh.free np) upd_same rfl (.dit rfl rfl .nil)
/-- d.get(k), d.get(k, x) -/
def dGet1 (x y : D) : Option D := (dAt x y).map fun o => o.getD .non
def mGet2 (a b c : ME) : ME := fun Γ => (a Γ).bind fun x => (b Γ).bind fun y => (c Γ).bind fun z => (dAt x y).map fun o => o.getD z
theorem r_get1 (hu : X.A.units + 1 < cLine) (ho : PE X o (rdB X.K mo)) (he : PE X e (rdB X.K me)) (m : M1 X o "get" apos e cpos) : PE X (.Call (.Attribute o "get" apos) [e] [] cpos) (rdE X.K (mBin dGet1 mo me)) :=
  PE.wk (pe_dget1 hu ho he m) fun σ H Q ⟨H0, F, Γ, d, R, z, q⟩ => by
    obtain ⟨dx, ex, z⟩ := Option.bind_eq_some_iff.mp z
    obtain ⟨dy, ey, z⟩ := Option.bind_eq_some_iff.mp z
    obtain ⟨r, e1, rfl⟩ := Option.map_eq_some_iff.mp z
    refine ⟨H0, F, Γ, dx, R, ex, fun x H1 F1 E1 rx => ?_⟩
    have isd : ∃ a, x = .ref a ∧ IsD H1 a := by
      unfold dAt at e1
      split at e1
      · obtain ⟨a, kvs, rfl, hd, _⟩ := rx.dicI E1.fh; exact ⟨a, rfl, .inl ⟨kvs, hd⟩⟩
      · obtain ⟨a, kvs, rfl, hd, _⟩ := rx.ditI E1.fh; exact ⟨a, rfl, .inr ⟨kvs, hd⟩⟩
      · cases e1
    obtain ⟨a, rfl, isd⟩ := isd
    refine ⟨a, rfl, isd, H0, F1, Γ, dy, R.ext E1, ey, fun y H2 F2 E2 ry => ?_⟩
    obtain ⟨a', w, ea, _, h1, h2, h3⟩ := dget_at E2.fh (rx.ext E2) ry e1
    cases ea
    refine ⟨w, h1, q _ H2 F2 (E1.trans E2) ?_⟩
    cases r with
    | none => rw [h3 rfl]; exact .non
    | some d => obtain ⟨v, rfl, rv⟩ := h2 d rfl; exact rv
theorem r_get2 (hu : X.A.units + 1 < cLine) (ho : PE X o (rdB X.K mo)) (he : PE X e (rdB X.K me)) (hf : PE X f (rdE X.K mf)) (m : M2 X o "get" apos e f cpos) : PE X (.Call (.Attribute o "get" apos) [e, f] [] cpos) (rdE X.K (mGet2 mo me mf)) :=
  PE.wk (pe_dget2 hu ho he hf m) fun σ H Q ⟨H0, F, Γ, d, R, z, q⟩ => by
    obtain ⟨dx, ex, z⟩ := Option.bind_eq_some_iff.mp z
    obtain ⟨dy, ey, z⟩ := Option.bind_eq_some_iff.mp z
    obtain ⟨dz, ez, z⟩ := Option.bind_eq_some_iff.mp z
    obtain ⟨r, e1, rfl⟩ := Option.map_eq_some_iff.mp z
    refine ⟨H0, F, Γ, dx, R, ex, fun x H1 F1 E1 rx => ?_⟩
    have isd : ∃ a, x = .ref a ∧ IsD H1 a := by
      unfold dAt at e1
      split at e1
      · obtain ⟨a, kvs, rfl, hd, _⟩ := rx.dicI E1.fh; exact ⟨a, rfl, .inl ⟨kvs, hd⟩⟩
      · obtain ⟨a, kvs, rfl, hd, _⟩ := rx.ditI E1.fh; exact ⟨a, rfl, .inr ⟨kvs, hd⟩⟩
      · cases e1
    obtain ⟨a, rfl, isd⟩ := isd
    refine ⟨a, rfl, isd, H0, F1, Γ, dy, R.ext E1, ey, fun y H2 F2 E2 ry => ⟨H0, F2, Γ, dz, (R.ext E1).ext E2, ez, fun z H3 F3 E3 rz => ?_⟩⟩
    obtain ⟨a', w, ea, _, h1, h2, h3⟩ := dget_at E3.fh ((rx.ext E2).ext E3) (ry.ext E3) e1
    cases ea
    refine ⟨w, h1, q _ H3 F3 ((E1.trans E2).trans E3) ?_⟩
    cases r with
    | none => rw [h3 rfl]; exact rz
    | some d => obtain ⟨v, rfl, rv⟩ := h2 d rfl; exact rv
/-- x.bit_length() -/
def dBits : D → Option D
  | .int i => some (.int (Builtin.Int.intBits i : Nat))
  | _ => none
theorem r_bits (ho : PE X o (rdB X.K mo)) (hbase : attributeBase o "bit_length" X.env (eval o X.env) = eval o X.env := by rfl) (hline : (apos.endLine == pos.line) = true := by rfl) : PE X (.Call (.Attribute o "bit_length" apos) [] [] pos) (rdE X.K (mUn dBits mo)) :=
  PE.wk (pe_bits ho hbase hline) fun σ H Q z => one (h := fun x H Q => ∃ i, x = .int i ∧ Q (.int (Builtin.Int.intBits i : Nat)) H) (fun F H x dx d Q s rx e q => by
    unfold dBits at e
    split at e
    · cases e; cases rx.int; exact ⟨_, rfl, q _ H F (.refl s) (.int _)⟩
    · cases e) z
end
/-! ### a dict of one's own is changed -/
def ownO (i : Nat) (Γ : En) : Option D := match Γ[i]? with
  | some (.own d) => some d
  | _ => none
theorem ownO_at {i : Nat} {Γ : En} {d : D} (h : ownO i Γ = some d) : Γ[i]? = some (.own d) := by
  unfold ownO at h
  split at h
  · rename_i e
    cases h
    exact e
  · cases h
def dPut : D → D → D → Option D
  | .dic ks ds, .int k, d => if ks.length < LIM then some (.dic (putKs ks k) (putDs ks ds k d)) else none
  | .dit ks ds, .tup xs, d => (intsOf xs).bind fun k => if ks.length < LIM then some (.dit (putKs ks k) (putDs ks ds k d)) else none
  | _, _, _ => none
def sPut (i : Nat) (k m : ME) : MS := fun Γ => (ownO i Γ).bind fun c => (m Γ).bind fun d => (k Γ).bind fun j => (dPut c j d).map fun c' => (.nx, Γ.set i (.own c'))
section
variable {X : Cx} {H0 : Hp} {k value : Expr} {pos pos' : Pos} {mk me : ME}
theorem dput_own {K : PySem.W.Frag} {F H : Hp} {a : Addr} {ob : HO} {c j d c' : D} {y v : V} (s : Same F H) (ha : H a = some ob) (r : ObR K F ob c) (ry : RepB K F H y j) (rv : Rep K F v d) (e : dPut c j d = some c') :
    ∃ ob', DPut H a y v (upd H a ob') ∧ c'.isM = true ∧ ObR K F ob' c' := by
  unfold dPut at e
  split at e
  · rename_i ks0 ds0 kk
    obtain ⟨l, rfl⟩ := if_some e
    cases r with
    | dic e1 f r =>
      subst f
      cases ry.int
      obtain ⟨h1, h2⟩ := put_rep inl_inj kk rv e1 r
      refine ⟨_, .inl ⟨_, .inl kk, ha, rfl, ?_, rfl⟩, rfl, .dic h1 rfl h2⟩
      have := congrArg List.length e1
      rw [List.length_map, List.length_map] at this
      rw [this, ← lim_line]; exact l
  · obtain ⟨kk, ek, e⟩ := Option.bind_eq_some_iff.mp e
    obtain ⟨l, rfl⟩ := if_some e
    cases r with
    | dit e1 f r =>
      subst f
      obtain ⟨b, vs, rfl, hb, rb⟩ := ry.tup
      rw [ints_rep ek rb] at hb
      obtain ⟨h1, h2⟩ := put_rep (c := List.map Sum.inl) inls_inj kk rv e1 r
      refine ⟨_, .inr ⟨_, kk.map .inl, b, ha, rfl, by rw [map_kV]; exact s _ _ hb, ?_, rfl⟩, rfl, .dit h1 rfl h2⟩
      have := congrArg List.length e1
      rw [List.length_map, List.length_map] at this
      rw [this, ← lim_line]; exact l
  · cases e
/-- d[k] = v; h: ps_dput hu (pv i) hk hv .. -/
theorem s_put {st : Stmt} {i : Nat} (h : PS X st (sDPut (tVar i) (rdB X.K mk) (rdE X.K me))) : PS X st (rdS X.K H0 (sPut i mk me)) :=
  PS_wk h fun D0 σ H ⟨F, Γ, fl, Γ', R, z, q⟩ => by
    obtain ⟨c, e1, z⟩ := Option.bind_eq_some_iff.mp z
    obtain ⟨d, e2, z⟩ := Option.bind_eq_some_iff.mp z
    obtain ⟨j, e3, z⟩ := Option.bind_eq_some_iff.mp z
    obtain ⟨c', e4, z⟩ := Option.map_eq_some_iff.mp z
    cases z
    have hi := ownO_at e1
    refine ⟨H0, F, Γ, d, R, e2, fun v H1 F1 E1 rv => ?_⟩
    obtain ⟨_, a, ob, h1, h2, h3, h4, h5⟩ := R.ownAt hi
    refine ⟨.ref a, h1, H0, F1, Γ, j, R.ext E1, e3, fun y H2 F2 E2 ry => ?_⟩
    have R2 := (R.ext E1).ext E2
    have ha : H2 a = some ob := E2.h _ _ (E1.h _ _ h4)
    obtain ⟨ob', p1, p2, p3⟩ := dput_own E2.fh ha ((h5.mono E1.f).mono E2.f) ry (rv.mono E2.f) e4
    refine ⟨a, _, rfl, p1, ?_⟩
    have fa : F2 a = none := by
      obtain ⟨_, a', ob', g1, g2, _⟩ := R2.ownAt hi
      rw [h1] at g1
      cases g1
      exact g2
    exact q σ _ F2 ((Grow.ext R.h0 E1).trans (Grow.ext (R.ext E1).h0 E2)) (R2.updOwn hi h1 p2 p3)
end
/-! ### walks of a dict that is known -/
def itemsA : D → Option (List D)
  | .dic ks ds => some (zipD (ks.map .int) ds)
  | _ => none
def keysA : D → Option (List D)
  | .dic ks _ => some (ks.map .int)
  | _ => none
def mItemsD (m : ME) : ML := fun Γ => (m Γ).bind itemsA
def mKeysD (m : ME) : ML := fun Γ => (m Γ).bind keysA
section
variable {K : PySem.W.Frag} {F1 : Hp} {d : Addr} {o : Obj} {kvs : List (L2.Key × V)} {ks : List Int} {ds : List D}
theorem keys_get {κ : Type} {c : Int → κ} : ∀ {kvs : List (κ × V)} {ks : List Int} {i : Nat} {k : Int}, kvs.map Prod.fst = ks.map c → ks[i]? = some k → ∃ v, kvs[i]? = some (c k, v)
  | [], [], _, _, _, e => by simp at e
  | [], _ :: _, _, _, h, _ => nomatch h
  | _ :: _, [], _, _, h, _ => nomatch h
  | p :: kvs, k :: ks, 0, _, h, e => by
    simp only [List.map_cons, List.cons.injEq] at h
    simp at e
    subst e
    exact ⟨p.2, by simp [← h.1]⟩
  | p :: kvs, k :: ks, i + 1, j, h, e => by
    simp only [List.map_cons, List.cons.injEq] at h
    obtain ⟨v, q⟩ := keys_get (i := i) (k := j) h.2 (by simpa using e)
    exact ⟨v, by simpa using q⟩
theorem itk_ok (h : F1 d = some (.frz o (.dK kvs))) (e : kvs.map Prod.fst = ks.map Sum.inl) : ItOk K F1 (Itk d o kvs) (ks.map .int) := by
  have hl : kvs.length = ks.length := by have := congrArg List.length e; rwa [List.length_map, List.length_map] at this
  refine ⟨fun F H i x s1 s2 hx => ⟨⟨s2 _ _ (s1 _ _ h), ?_⟩, fun v H' y => ?_⟩, fun F H s1 s2 => ⟨s2 _ _ (s1 _ _ h), by rw [List.length_map, hl]; exact Nat.le_refl _⟩⟩
  · have := (List.getElem?_eq_some_iff.mp hx).1
    rw [List.length_map] at this
    omega
  · obtain ⟨rfl, k, w, hk, rfl⟩ := y
    rw [List.getElem?_map] at hx
    obtain ⟨n, hn, rfl⟩ := Option.map_eq_some_iff.mp hx
    obtain ⟨w', hw⟩ := keys_get e hn
    rw [hk] at hw
    cases hw
    exact ⟨F, .refl s2, .int n⟩
theorem iti_ok (h : F1 d = some (.frz o (.dK kvs))) (e : kvs.map Prod.fst = ks.map Sum.inl) (r : RepL K F1 (kvs.map Prod.snd) ds) : ItOk K F1 (Iti d o kvs) (zipD (ks.map .int) ds) := by
  have hl : kvs.length = ks.length := by have := congrArg List.length e; rwa [List.length_map, List.length_map] at this
  have hl2 : kvs.length = ds.length := by have := r.length; rwa [List.length_map] at this
  have hz : (zipD (ks.map D.int) ds).length = kvs.length := by rw [zipD_len, List.length_map]; omega
  refine ⟨fun F H i x s1 s2 hx => ⟨⟨s2 _ _ (s1 _ _ h), ?_⟩, fun v H' y => ?_⟩, fun F H s1 s2 => ⟨s2 _ _ (s1 _ _ h), by omega⟩⟩
  · have := (List.getElem?_eq_some_iff.mp hx).1
    omega
  · obtain ⟨T, k, w, hk, rfl, nT, rfl⟩ := y
    obtain ⟨dk, dd, g1, g2, rfl⟩ := zipD_get hx
    rw [List.getElem?_map] at g1
    obtain ⟨n, hn, rfl⟩ := Option.map_eq_some_iff.mp g1
    obtain ⟨w', hw⟩ := keys_get e hn
    rw [hk] at hw
    cases hw
    obtain ⟨v, hv, rv⟩ := r.get g2
    rw [List.getElem?_map, hk] at hv
    cases hv
    have E := Ext.laid s2 (o := .tup [.int n, w]) nT
    exact ⟨_, E, .ob upd_same (.tup (.cons (.int n) (.cons ((rv.mono s1).mono E.f) .nil)))⟩
end
section
variable {X : Cx} {tg e : Expr} {apos cpos tpos : Pos} {elts : List Expr} {kk : Nat} {me : ME}
theorem i_keysD (he : PE X e (rdE X.K me)) : PI X tg e (rdI X.K (mKeysD me)) :=
  PI_wk (pi_keys he) fun σ H R ⟨H0, F, Γ, xs, R0, z, q⟩ => by
    obtain ⟨d, e1, z⟩ := Option.bind_eq_some_iff.mp z
    unfold keysA at z
    split at z
    · cases z
      refine ⟨H0, F, Γ, _, R0, e1, fun v H' F' E r => ?_⟩
      obtain ⟨a, o, kvs, rfl, h, ek, rr⟩ := r.dicI
      exact ⟨a, o, rfl, .inl ⟨kvs, E.fh _ _ h, q _ H' F' E (itk_ok h ek)⟩⟩
    · cases z
theorem i_items (he : PE X e (rdE X.K me)) (hbase : attributeBase e "items" X.env (eval e X.env) = eval e X.env := by rfl) (hline : (apos.endLine == cpos.line) = true := by rfl) :
    PI X (.Tuple elts kk tpos) (.Call (.Attribute e "items" apos) [] [] cpos) (rdI X.K (mItemsD me)) :=
  PI_wk (pi_items he hbase hline) fun σ H R ⟨H0, F, Γ, xs, R0, z, q⟩ => by
    obtain ⟨d, e1, z⟩ := Option.bind_eq_some_iff.mp z
    unfold itemsA at z
    split at z
    · cases z
      refine ⟨H0, F, Γ, _, R0, e1, fun v H' F' E r => ?_⟩
      obtain ⟨a, o, kvs, rfl, h, ek, rr⟩ := r.dicI
      exact ⟨a, o, kvs, rfl, E.fh _ _ h, q _ H' F' E (iti_ok h ek rr)⟩
    · cases z
end
end SK

set_option Elab.async false
set_option linter.all false
set_option maxRecDepth 100000
set_option maxHeartbeats 4000000
set_option autoImplicit false
namespace SK
open PySem PySem.Spec PyProof.Rows L2

/-! ### sorted(xs, key=f), f a def -/
def freedObj (o : Obj) : Obj := { o with data := .freed }
theorem get_freed (h : Heap) (a : Addr) : (h.update a freedObj).get? a = none := by
  cases q : (h.update a freedObj).get? a with
  | none => rfl
  | some o =>
    have h1 := (Heap.get?_eq_some _ _ _).mp q
    have h2 := h1.1
    rw [Heap.objs_update_self] at h2
    obtain ⟨o', _, rfl⟩ := Option.map_eq_some_iff.mp h2
    exact absurd h1.2 Bool.false_ne_true
theorem get_freed_ne (h : Heap) {a b : Addr} (n : b ≠ a) : (h.update a freedObj).get? b = h.get? b := Heap.get?_update_ne _ _ _ _ n
theorem in1_room {k : Nat} {A : Around} (r : Room (k + 1) A) : Room k A.in1.in1 := ⟨r.hd, by have := r.dp; show A.depth + 3 * k + 5 < _; omega, by have := r.un; show A.units + 1 + 1 + 16 * k + 200 < _; omega⟩
/-- the key of x -/
def keyD (m : List D → Option D) (x : D) : D := (m [x]).getD .non
def keyPy (m : List D → Option D) (x : D) : PyData := (keyD m x).py
def okKeys (m : List D → Option D) (xs : List D) : Bool := xs.all fun x => match m [x] with
  | some (.tup (k :: ks)) => D.shp 7 (.tup (k :: ks)) && xs.all fun y => PySem.W.alike (D.tup (k :: ks)).py (keyPy m y)
  | _ => false
def dSortKey (m : List D → Option D) : List D → Option D
  | [.lst xs] => if okKeys m xs && decide (xs.length ≤ LIM) then some (.lst (xs.mergeSort (PySem.W.dataLe false (keyPy m)))) else none
  | _ => none
theorem okKeys_at {m : List D → Option D} {xs : List D} (h : okKeys m xs = true) {x : D} (hx : x ∈ xs) :
    m [x] = some (keyD m x) ∧ D.shp 7 (keyD m x) = true ∧ (∃ y r, keyPy m x = .tuple (y :: r)) ∧ ∀ y ∈ xs, PySem.W.alike (keyPy m x) (keyPy m y) = true := by
  have q := List.all_eq_true.mp h x hx
  split at q
  · rename_i k ks e
    obtain ⟨q1, q2⟩ := Bool.and_eq_true_iff.mp q
    have ek : keyD m x = .tup (k :: ks) := by unfold keyD; rw [e]; rfl
    refine ⟨by rw [ek]; exact e, by rw [ek]; exact q1, ⟨D.py k, D.pyL ks, ?_⟩, fun y hy => ?_⟩
    · unfold keyPy; rw [ek]; simp only [D.py, D.pyL]
    · have := List.all_eq_true.mp q2 y hy
      unfold keyPy
      rw [ek]; exact this
  · cases q
section
variable {X : Cx} {k : Nat} {f : Addr} {fd : FuncData} {p0 : Str} {m : List D → Option D}
/-- xs to their data, one by one -/
theorem each_rep {K : PySem.W.Frag} {F : Hp} : ∀ {vs : List V} {us : List Value} {ds : List D}, Vals vs us → RepL K F vs ds → PySem.W.EachIs (fun u d => d ∈ ds ∧ ∃ v, RelV v u ∧ Rep K F v d) us ds := by
  have gen : ∀ {vs : List V} {us : List Value} {ds es : List D}, Vals vs us → RepL K F vs ds → (∀ d ∈ ds, d ∈ es) → PySem.W.EachIs (fun u d => d ∈ es ∧ ∃ v, RelV v u ∧ Rep K F v d) us ds := by
    intro vs
    induction vs with
    | nil => intro us ds es h r _; cases h; cases r; exact .nil
    | cons v vs ih =>
      intro us ds es h r hs
      cases h with
      | cons h1 h2 =>
        cases r with
        | cons r1 r2 => exact .cons ⟨hs _ List.mem_cons_self, v, h1, r1⟩ (ih h2 r2 fun d hd => hs d (List.mem_cons_of_mem _ hd))
  intro vs us ds h r
  exact gen h r fun _ z => z
theorem rep_each {K : PySem.W.Frag} {F : Hp} {es : List D} : ∀ {us : List Value} {ds : List D}, PySem.W.EachIs (fun u d => d ∈ es ∧ ∃ v, RelV v u ∧ Rep K F v d) us ds → ∃ vs, Vals vs us ∧ RepL K F vs ds
  | _, _, .nil => ⟨[], .nil, .nil⟩
  | _, _, .cons ⟨_, v, h1, h2⟩ t => by
    obtain ⟨vs, a, b⟩ := rep_each t
    exact ⟨v :: vs, .cons h1 a, .cons h2 b⟩
def rSortKey (K : PySem.W.Frag) (f : Addr) (m : List D → Option D) : List V → List V → Hp → VK → Prop := fun vs zs H Q => ∃ (l : Addr) (xs : List V) (F : Hp) (ds : List D), vs = [.ref l] ∧ zs = [.ref f] ∧ Same F H ∧ SqL K H l xs ∧ RepL K F xs ds ∧ okKeys m ds = true ∧ ds.length ≤ LIM ∧
  ∀ (H' F' : Hp) (a : Addr) (out : List V), Ext F H F' H' → H a = none → F' a = none → H' a = some (.lst out) → RepL K F' out (ds.mergeSort (PySem.W.dataLe false (keyPy m))) → Q (.ref a) H'
theorem shp_depth {d : D} {n : Nat} (h : D.shp n d = true) : d.py.depth ≤ n := (shp_ok n d h).2
theorem cr_sortKey (G : FnOk X.prog X.w X.K X.mg X.base CX0 k f fd [p0] (spF X.K m)) (hr : Room (k + 1) X.A) (hb : Binds X.K fd [p0] []) : CallRK X (.builtin "sorted") [Str.ofString "key"] (rSortKey X.K f m) := by
  intro pins s σ H vs zs us ws Q I r rz h
  obtain ⟨l, xs, F, ds, rfl, rfl, sm, hl, rx, ok, hlen, q⟩ := h
  obtain rfl := Vals.ref1 r
  obtain ⟨w1, rfl, e1⟩ := vals1 rz
  obtain rfl : w1 = Value.ref f := e1
  obtain ⟨its, rv, hls, hz⟩ := I.list hl
  have eR := each_rep rv rx
  have hL : its.length ≤ sizeLine := by rw [← rv.length, rx.length, ← lim_line]; exact hlen
  have hit : its.length = ds.length := by rw [← rv.length, rx.length]
  refine PySem.W.sorted_of_sort hls.isList hL (PyProof.Rows.ksk_s1 _ _) (fun _ => PyProof.Rows.ksk_l1 _ _) fun E' => ?_
  show wpAny _ _ (Builtin.«list.sort» ⟨[.ref (s.heap.objs.size + 1)], [(Str.ofString "key", .ref f)]⟩) _ _ _
  rw [PyProof.Rows.ksk_t1]
  unfold PyProof.Rows.ksk_tree
  generalize ea : s.heap.objs.size + 1 = a
  have ho : (PySem.W.copyHeap s.heap its).get? a = some (seqObj "list" its.toArray 0) := by rw [← ea]; exact PySem.W.copyHeap_at s.heap its
  refine wpAny_bind (listItems_at ho rfl ?_)
  refine wpAny_bind (listUpdate_at ho rfl ?_ (by rw [List.size_toArray]; exact hL) (Nat.zero_le _))
  have ho1 := get?_update_seq ho fun _ => (#[] : Array Value)
  generalize en : (if ((fun _ => (#[] : Array Value)) its.toArray).size == its.toArray.size then 0 else 0 + 1) = ep at ho1
  refine wpAny_bind (seqEpoch_at ho1 rfl ?_)
  refine wpAny_bind (wpAny_newTuple ?_ (by show its.length ≤ _; exact hL))
  refine wpAny_bind (wpAny_newList ?_ (Nat.zero_le _))
  refine wpAny_holding ?_
  show wpAny _ _ (PyProof.Rows.ksk_rest a (.ref f) false its.toArray ep (.ref _)) _ _ { s with heap := PySem.W.sortingHeap (PySem.W.copyHeap s.heap its) a its }
  have hck : (PySem.W.copyHeap s.heap its).objs.size = s.heap.objs.size + 2 := by
    have := Heap.lt_size ho
    unfold PySem.W.copyHeap
    rw [size_push', Heap.size_update, size_push']
  have hkS : (((PySem.W.copyHeap s.heap its).update a (Obj.mapSeq fun _ => (#[] : Array Value))).push (seqObj "tuple" its.toArray 0)).objs.size = s.heap.objs.size + 3 := by rw [size_push', Heap.size_update, hck]
  show wpAny _ _ (PyProof.Rows.ksk_rest a (.ref f) false its.toArray ep (.ref (((PySem.W.copyHeap s.heap its).update a (Obj.mapSeq fun _ => (#[] : Array Value))).push (seqObj "tuple" its.toArray 0)).objs.size)) _ _ _
  rw [hkS]
  generalize eS : s.heap.objs.size + 3 = kS
  have hka : kS ≠ a := by omega
  have la : s.heap.objs.size ≤ a := by omega
  have lS : s.heap.objs.size ≤ kS := by omega
  have hold : ∀ b o, s.heap.get? b = some o → (PySem.W.sortingHeap (PySem.W.copyHeap s.heap its) a its).get? b = some o := fun b o e =>
    PySem.W.sortingHeap_old (Nat.ne_of_lt (Nat.lt_of_lt_of_le (Heap.lt_size e) la)) (PySem.W.copyHeap_old e)
  have I2 : Inv X pins σ H { s with heap := PySem.W.sortingHeap (PySem.W.copyHeap s.heap its) a its } := I.kept (t' := s.toks) hold
  have gS : (PySem.W.sortingHeap (PySem.W.copyHeap s.heap its) a its).get? kS = some (seqObj "list" #[] 0) := by
    rw [← eS, ← hkS]; exact Heap.get?_push_size _ rfl
  have ga : (PySem.W.sortingHeap (PySem.W.copyHeap s.heap its) a its).get? a = some (seqObj "list" #[] ep) := Heap.get?_push_of_some _ (Heap.get?_push_of_some _ ho1)
  have nH : ∀ b, s.heap.objs.size ≤ b → H b = none := fun b hb => I.hok.fresh hb
  have fp : ∀ b, s.heap.objs.size ≤ b → ∀ H' : Hp, H' b = none → FpOk X pins H' b := fun b hb H' hn => I.fpOk hb hn
  have pinOk : ∀ {s' : Shared} {H' : Hp} {o : Obj} {b : Addr}, s.heap.objs.size ≤ b → s'.heap.get? b = some o → H' b = none → (∀ v : Option Value, o.data ≠ .cell v) → s'.heap.get? b = some o ∧ H' b = none ∧ b ≠ X.env.locals ∧ b ∉ X.fs ∧ ∀ v : Option Value, o.data ≠ .cell v := fun {s' H' o b} hb e hn hc =>
    ⟨e, hn, (fp b hb H' hn).2.1, (fp b hb H' hn).2.2.1, hc⟩
  have nc : ∀ (xs : Array Value) (n : Nat) (v : Option Value), (seqObj "list" xs n).data ≠ .cell v := fun xs n v z => nomatch z
  -- pins for the two lists of ours
  have rep : ∀ {s' : Shared} {H' : Hp} {kA : Array Value} {e : Nat}, Inv X pins σ H' s' → H' a = none → H' kS = none → s'.heap.get? a = some (seqObj "list" #[] ep) → s'.heap.get? kS = some (seqObj "list" kA e) →
      Inv X ((kS, seqObj "list" kA e) :: (a, seqObj "list" #[] ep) :: pins) σ H' s' := fun {s' H' kA e} I' na nS h1 h2 => I'.pins_of fun p hp => by
    rcases List.mem_cons.mp hp with rfl | hp
    · exact pinOk lS h2 nS (nc _ _)
    · rcases List.mem_cons.mp hp with rfl | hp
      · exact pinOk la h1 na (nc _ _)
      · exact I'.pin p (List.mem_append_right _ hp)
  unfold PyProof.Rows.ksk_rest
  refine wpAny_bind (wpAny_rule ?_)
  rw [List.forIn_toArray]
  refine wpAny_bind (PyProof.Rows.ksk_fold (fun i s' => ∃ (Hi Fi : Hp) (kA : Array Value) (e : Nat) (kvs : List V), Ext F H Fi Hi ∧ Inv X ((kS, seqObj "list" kA e) :: (a, seqObj "list" #[] ep) :: pins) σ Hi s' ∧ Vals kvs kA.toList ∧ RepL X.K Fi kvs ((ds.take i).map (keyD m))) its 0 _
    ⟨H, F, #[], 0, [], .refl sm, rep I2 (nH a la) (nH kS lS) ga gS, .nil, by rw [List.take_zero]; exact .nil⟩ ?step ?done)
  case step =>
    rintro j u s' hu ⟨Hi, Fi, kA, e, kvs, E1, I1, kv, kr⟩
    simp only [Nat.zero_add] at kr ⊢
    have hj : j < its.length := (List.getElem?_eq_some_iff.mp hu).1
    have hjd : j < ds.length := by omega
    obtain ⟨hmem, v, rvu, rvd⟩ : ds[j] ∈ ds ∧ ∃ v, RelV v u ∧ Rep X.K F v ds[j] := by
      have hz : (u, ds[j]) ∈ its.zip ds := List.mem_of_getElem? (i := j) (by rw [List.getElem?_zip_eq_some]; exact ⟨hu, List.getElem?_eq_getElem hjd⟩)
      exact eR.zip _ hz
    obtain ⟨km, kshp, _, _⟩ := okKeys_at ok hmem
    have pS := I1.pin (kS, _) (List.mem_append_right _ List.mem_cons_self)
    have pa := I1.pin (a, _) (List.mem_append_right _ (List.mem_cons_of_mem _ List.mem_cons_self))
    refine wpAny_bind (wpAny_attempt (wpAny_mono (E := fun _ _ => False) (Q := EP X ((kS, seqObj "list" kA e) :: (a, seqObj "list" #[] ep) :: pins) σ fun w H' => ∃ F', Ext Fi Hi F' H' ∧ Rep X.K F' w (keyD m ds[j])) ?_ (fun w s'' he => ?_) fun _ _ hF => hF.elim))
    · have hb1 := hb s' [u] I1.kIn rfl
      have G1 := G.run X.A.in1.in1 X.stack s' Hi ⟨[u], []⟩ [u] [v] (fun w H' => ∃ F', Ext Fi Hi F' H' ∧ Rep X.K F' w (keyD m ds[j])) E0 (in1_room hr) I1.env0.in1.in1 (by simpa using hb1) (.cons rvu .nil)
        ⟨Fi, [ds[j]], _, E1.fh, .cons (rvd.mono E1.f) .nil, km, fun w H' F' E2 rw => ⟨F', E2, rw⟩⟩
      refine wpAny_call (codeAny_mono G1 fun r1 s2 hq => ?_)
      cases r1 with
      | error e => exact hq.elim
      | ok fl =>
        cases fl with
        | ret w => exact I1.after hq
        | next => exact hq.elim
        | brk => exact hq.elim
        | cont => exact hq.elim
    · obtain ⟨wv, H2, I3, rw, F2, E2, rd⟩ := he
      have pS2 := I3.pin (kS, _) (List.mem_append_right _ List.mem_cons_self)
      have pa2 := I3.pin (a, _) (List.mem_append_right _ (List.mem_cons_of_mem _ List.mem_cons_self))
      have hkl : kA.size = j := by
        have h1 := kv.length
        have h2 := kr.length
        rw [List.length_map, List.length_take, Nat.min_eq_left (Nat.le_of_lt hjd)] at h2
        have h3 : kA.toList.length = kA.size := Array.length_toList
        omega
      refine wpAny_bind (listUpdate_at pS2.1 rfl ?_ (by omega) (by rw [Array.size_push]; omega))
      have hc2 := get?_update_seq pS2.1 fun z => z.push w
      generalize e2 : (if ((fun z => Array.push z w) kA).size == kA.size then e else e + 1) = e' at hc2
      have s1 := Heap.SameBut.update s''.heap kS (Obj.mapSeq fun z => z.push w)
      have I4 : Inv X pins σ H2 s'' := I3.pins_of fun p hp => I3.pin p (List.mem_append_right _ (List.mem_cons_of_mem _ (List.mem_cons_of_mem _ hp)))
      have I5 : Inv X pins σ H2 { s'' with heap := s''.heap.update kS (Obj.mapSeq fun z => z.push w) } := I4.turnedL (t' := s''.toks) (ch := [kS]) (fun b o hb e => (s1.2 b (fun z => hb (by simp [z]))).trans e) fun b hb => by
        have : b = kS := by simpa using hb
        subst this
        exact fp _ lS _ pS2.2.1
      refine wpAny_pure ⟨rfl, H2, F2, kA.push w, e', kvs ++ [wv], E1.trans E2, rep I5 pa2.2.1 pS2.2.1 ((s1.2 a hka.symm).trans pa2.1) hc2, ?_, ?_⟩
      · rw [Array.toList_push]; exact kv.append (.cons rw .nil)
      · have et : ds.take (j + 1) = ds.take j ++ [ds[j]] := by rw [List.take_add_one, List.getElem?_eq_getElem hjd]; rfl
        rw [et, List.map_append]
        exact (kr.mono E2.f).append (.cons rd .nil)
  case done =>
    rintro s' ⟨Hi, Fi, kA, e, kvs, E1, I1, kv, kr⟩
    have et : ds.take (0 + its.length) = ds := List.take_of_length_le (by omega)
    rw [et] at kr
    have pS := I1.pin (kS, _) (List.mem_append_right _ List.mem_cons_self)
    have pa := I1.pin (a, _) (List.mem_append_right _ (List.mem_cons_of_mem _ List.mem_cons_self))
    have I4 : Inv X pins σ Hi s' := I1.pins_of fun p hp => I1.pin p (List.mem_append_right _ (List.mem_cons_of_mem _ (List.mem_cons_of_mem _ hp)))
    have hsz : kA.size = its.length := by
      have h1 := kv.length
      have h2 := kr.length
      rw [List.length_map] at h2
      have h3 : kA.toList.length = kA.size := Array.length_toList
      omega
    have reads : PySem.W.EachIs (fun v k => ∃ as, Reads s'.heap v k as) kA.toList (ds.map (keyPy m)) := by
      have go : ∀ {vs : List V} {us : List Value} {es : List D}, (∀ d ∈ es, D.shp 7 (keyD m d) = true) → Vals vs us → RepL X.K Fi vs (es.map (keyD m)) → PySem.W.EachIs (fun v k => ∃ as, Reads s'.heap v k as) us (es.map (keyPy m)) := by
        intro vs us es
        induction es generalizing vs us with
        | nil => intro _ h r; cases r; cases h; exact .nil
        | cons d es ih =>
          intro hs h r
          cases r with
          | cons r1 r2 =>
            cases h with
            | cons h1 h2 =>
              exact .cons (Dp.reads I4 _ _ _ (dp_of E1.fh r1 (hs d List.mem_cons_self)) h1) (ih (fun x hx => hs x (List.mem_cons_of_mem _ hx)) h2 r2)
      exact go (fun d hd => (okKeys_at ok hd).2.1) kv kr
    have hal : PySem.W.AllAlike (ds.map (keyPy m)) := by
      intro x hx y hy
      obtain ⟨d, hd, rfl⟩ := List.mem_map.mp hx
      obtain ⟨d', hd', rfl⟩ := List.mem_map.mp hy
      exact (okKeys_at ok hd).2.2.2 d' hd'
    have hsk : PySem.W.Sortable (ds.map (keyPy m)) := .inl fun x hx => by
      obtain ⟨d, hd, rfl⟩ := List.mem_map.mp hx
      exact (okKeys_at ok hd).2.2.1
    have hu : ∀ x, x ∈ ds.map (keyPy m) → X.A.in1.in1.units + x.depth < cLine := fun x hx => by
      obtain ⟨d, hd, rfl⟩ := List.mem_map.mp hx
      have h1 : (keyPy m d).depth ≤ 7 := shp_depth (okKeys_at ok hd).2.1
      have h2 := hr.un
      show X.A.units + 1 + 1 + _ < _
      omega
    refine wpAny_bind (listItems_at pS.1 rfl ?_)
    refine PySem.W.keyH_end (κ := PySem.W.dataKind s'.heap (ds.map (keyPy m))) (h₁ := s'.heap.update kS freedObj) (fun b o hb eo => ?_) (get_freed _ _) pS.1 pa.1 hka (PySem.W.SortsAt.data reads hal hsk hu) hsz hL fun h3 tk3 c k3 n3 => ⟨rfl, ?_⟩
    · by_cases hbS : b = kS
      · subst hbS; rw [get_freed] at eo; cases eo
      · rw [get_freed_ne _ hbS] at eo; exact eo
    · have ko : PySem.W.EachIs (fun u d => d ∈ ds ∧ ∃ v, RelV v u ∧ Rep X.K F v d) (PySem.W.sortVals (PySem.W.dataKind s'.heap (ds.map (keyPy m))) false kA.toList its) (ds.mergeSort (PySem.W.dataLe false (keyPy m))) :=
        PySem.W.keyedOut_each (keyPy m) ⟨s'.heap, kA.toList, hal, rfl, reads⟩ eR
      obtain ⟨out, ov, orp⟩ := rep_each ko
      have keep3 : ∀ b o, b ≠ a → b ≠ kS → s'.heap.get? b = some o → h3.get? b = some o := fun b o hb hbS eo => k3 b o hb (by rw [get_freed_ne _ hbS]; exact eo)
      have olen : out.length = ds.length := by rw [orp.length, List.length_mergeSort]
      -- the keys' list turns, then ours is taken
      have I6 : Inv X pins σ Hi { s' with heap := h3, toks := tk3 } := I4.turnedL (t' := tk3) (ch := [kS, a]) (fun b o hb eo => keep3 b o (fun z => hb (by simp [z])) (fun z => hb (by simp [z])) eo) fun b hb => by
        rcases List.mem_cons.mp hb with rfl | hb
        · exact fp _ lS _ pS.2.1
        · have : b = a := by simpa using hb
          subst this
          exact fp _ la _ pa.2.1
      have new : ObjOk X.prog X.w (upd Hi a (.lst out)) h3 a (.lst out) := ⟨by rw [olen, ← lim_line]; exact hlen, _, c, ov, n3⟩
      have I7 : Inv X pins σ (upd Hi a (.lst out)) { s' with heap := h3, toks := tk3 } := I6.take (h' := h3) (t' := tk3) (fun b ob _ eo => eo) (fp _ la _ pa.2.1) new
      refine ⟨.ref a, _, I7, rfl, q _ Fi a out (E1.trans (Ext.own E1.fh pa.2.1)) (nH a la) (E1.fh.free pa.2.1) upd_same (orp.mono E1.f)⟩
theorem r_sortKey {e : Expr} {x : Str} {p q kp pos : Pos} {me : ME} (G : FnOk X.prog X.w X.K X.mg X.base CX0 k f fd [p0] (spF X.K m)) (hr : Room (k + 1) X.A) (hb : Binds X.K fd [p0] []) (hg : Gl X "sorted") (hm : X.mg "sorted" = none) (hgf : Gl X x) (hmf : X.mg x = some (.ref f))
    (he : PE X e (rdB X.K me)) (hd : (x == ("__debug__" : Str)) = false := by decide)
    (hs0 : starEach [e] X.env = (false, eval e X.env) :: starEach [] X.env := by rfl) (hs : backTo pos (starEach [e] X.env) = (false, eval e X.env) :: backTo pos (starEach [] X.env) := by rfl) (hpl : (backTo pos (starEach [e] X.env)).any (·.1) = false := by rfl) : PE X (.Call (.Name "sorted" p) [e] [⟨some "key", .Name x q, kp⟩] pos) (rdN X.K (mCall (dSortKey m) (mCons me mNil))) :=
  PE.wk (pe_callBK (ks := [Str.ofString "key"]) (cr_sortKey G hr hb) hg hm (by decide +kernel) (pa_cons he pa_nil hs0) (pk_cons (pe_glob hgf hmf (show RelV (.ref f) (.ref f) from rfl) hd) pk_nil) (he := hs) (hpl := hpl)) fun σ H Q ⟨H0, F, Γ, d, R, z, qq⟩ => by
    obtain ⟨ds, ed, z⟩ := Option.bind_eq_some_iff.mp z
    obtain ⟨dx, e1, ed⟩ := Option.bind_eq_some_iff.mp ed
    cases ed
    refine ⟨H0, F, Γ, dx, R, e1, fun v H1 F1 E1 rv => ?_⟩
    unfold dSortKey at z
    split at z
    · rename_i xs ex
      cases ex
      obtain ⟨c, rfl⟩ := ite_some z
      obtain ⟨c1, c2⟩ := Bool.and_eq_true_iff.mp c
      obtain ⟨l, vs, rfl, hl, rl⟩ := rv.lst E1.fh
      exact ⟨l, vs, F1, xs, rfl, rfl, E1.fh, .of hl, rl, c1, of_decide_eq_true c2, fun H' F' a out E2 n fa ha ro => qq a _ H' F' (E1.trans E2) (E1.h.free n) fa ha rfl (.lst ro)⟩
    · cases z
end
theorem un1 {k : Nat} {A : Around} (r : Room k A) : A.units + 1 < cLine := by have := r.un; omega
end SK

set_option Elab.async false
set_option linter.all false
set_option maxRecDepth 100000
set_option autoImplicit false
namespace SK
open PySem PySem.Spec PyProof.Rows L2
/-! defs that several laws share -/
def b_size_key : MS :=
  (sRt (mTup (mCons (mCall dLen (mCons (mVarB 0) mNil)) (mCons (mVar 0) mNil))))
def m_size_key : List D → Option D := runFn 1 1 b_size_key
end SK

set_option Elab.async false
set_option linter.all false
set_option maxRecDepth 100000
set_option maxHeartbeats 4000000
set_option autoImplicit false
namespace SK
open PySem PySem.Spec PyProof.Rows L2
/-! ### typed mirrors of the defs that several laws share, by plain numbers -/
noncomputable def nOf (i : Int) : Nat := Int.rec (motive := fun _ => Nat) (fun a => a) (fun _ => 0) i
theorem nOf_eq (i : Int) : nOf i = i.toNat := by cases i <;> rfl
noncomputable def t_power_in (a e n : Int) : Option Int :=
  bIf (bAnd (iLt (.ofNat 0) n) (bAnd (iLt n (.ofNat 4611686018427387904)) (bAnd (iLe (.ofNat 0) e) (iLt e (.ofNat 4611686018427387904))))) (some (.ofNat (Nat.mod (Nat.pow (nOf (iMod a n)) (nOf e)) (nOf n)))) none
theorem T_power_in (a e n : Int) : ∀ r, t_power_in a e n = some r → m_power_in [eI a, eI e, eI n] = some (eI r) := fun r h => by
  obtain ⟨c, h⟩ := bIf_some h
  cases h
  refine le_power_in _ _ ?_
  simp only [bAnd_eq, iLt_eq, iLe_eq] at c
  show (if decide (0 < n) && (decide (n < 4611686018427387904) && (decide (0 ≤ e) && decide (e < 4611686018427387904))) then some (D.int (((a % n).toNat ^ e.toNat % n.toNat : Nat) : Int)) else none) = _
  refine (if_pos c).trans ?_
  rw [nOf_eq, nOf_eq, nOf_eq, iMod_eq]; rfl
theorem power_in_eq {a e n : Nat} (hn : 0 < n) (h1 : n < 4611686018427387904) (h2 : e < 4611686018427387904) : t_power_in (.ofNat a) (.ofNat e) (.ofNat n) = some (.ofNat ((a % n) ^ e % n)) := by
  unfold t_power_in
  rw [bIf_eq, if_pos]
  · rfl
  · simp only [bAnd_eq, iLt_eq, iLe_eq, Bool.and_eq_true, decide_eq_true_eq, Int.ofNat_eq_natCast]; omega
noncomputable def t_divisor (a b : Int) : Option Int := bIf (bAnd (iLe (.ofNat 0) a) (bAnd (iLe (.ofNat 0) b) (iLt b (.ofNat 1000)))) (some (.ofNat (Nat.gcd (nOf a) (nOf b)))) none
theorem T_divisor (a b : Int) : ∀ r, t_divisor a b = some r → m_divisor [eI a, eI b] = some (eI r) := fun r h => by
  obtain ⟨c, h⟩ := bIf_some h
  cases h
  refine le_divisor _ _ ?_
  simp only [bAnd_eq, iLt_eq, iLe_eq] at c
  show (if decide (0 ≤ a) && (decide (0 ≤ b) && decide (b < 1000)) then some (D.int (Nat.gcd a.toNat b.toNat)) else none) = _
  refine (if_pos c).trans ?_
  rw [nOf_eq, nOf_eq]; rfl
noncomputable def t__law_common (a b : Int) : Option Int := bIf (bAnd (iLe (.ofNat 0) a) (bAnd (iLe (.ofNat 0) b) (iLt b (.ofNat 200)))) (some (.ofNat (Nat.gcd (nOf a) (nOf b)))) none
theorem T__law_common (a b : Int) : ∀ r, t__law_common a b = some r → m__law_common [eI a, eI b] = some (eI r) := fun r h => by
  obtain ⟨c, h⟩ := bIf_some h
  cases h
  refine le__law_common _ _ ?_
  simp only [bAnd_eq, iLt_eq, iLe_eq] at c
  show (if decide (0 ≤ a) && (decide (0 ≤ b) && decide (b < 200)) then some (D.int (Nat.gcd a.toNat b.toNat)) else none) = _
  refine (if_pos c).trans ?_
  rw [nOf_eq, nOf_eq]; rfl
/-- the least e from 1 on with a ** e = 1, below k more -/
noncomputable def rndN (a n k : Nat) : Nat → Nat → Option Int := Nat.rec (motive := fun _ => Nat → Nat → Option Int) (fun _ _ => none) (fun _ ih i p => bIf (Nat.beq (Nat.mod (Nat.mul p a) n) (Nat.mod 1 n)) (some (.ofNat (Nat.succ i))) (ih (Nat.succ i) (Nat.mod (Nat.mul p a) n))) k
theorem rndN_eq (a n : Nat) : ∀ (k i p : Nat), eO eI (rndN a n k i p) = (match findR (fun p (_ : Nat) => p * a % n) (fun p i => if p * a % n = 1 % n then some (D.int (1 + (i : Int))) else none) (List.range' i k) p with | .inl d => d | .inr _ => .non)
  | 0, i, p => rfl
  | k + 1, i, p => by
    rw [List.range'_succ]
    show eO eI (bIf (Nat.beq (p * a % n) (1 % n)) (some (.ofNat (Nat.succ i))) (rndN a n k (Nat.succ i) (p * a % n))) = (match (match (if p * a % n = 1 % n then some (D.int (1 + (i : Int))) else none) with | some d => Sum.inl d | none => findR (fun p (_ : Nat) => p * a % n) (fun p i => if p * a % n = 1 % n then some (D.int (1 + (i : Int))) else none) (List.range' (i + 1) k) (p * a % n)) with | .inl d => d | .inr _ => .non)
    rw [bIf_eq]
    by_cases h : p * a % n = 1 % n
    · rw [if_pos h, if_pos (by rw [Nat.beq_eq]; exact h)]
      show D.int _ = D.int _
      congr 1
      rw [Int.ofNat_eq_natCast]; omega
    · rw [if_neg h, if_neg (by rw [Nat.beq_eq]; exact h)]
      exact rndN_eq a n k (i + 1) (p * a % n)
noncomputable def t_round_of (a n : Int) : Option (Option Int) := bIf (bAnd (iLe (.ofNat 0) a) (bAnd (iLt (.ofNat 0) n) (iLe n (.ofNat 100000)))) (some (rndN (nOf a) (nOf n) (nOf n) 0 (Nat.mod 1 (nOf n)))) none
theorem T_round_of (a n : Int) : ∀ r, t_round_of a n = some r → m_round_of [eI a, eI n] = some (eO eI r) := fun r h => by
  obtain ⟨c, h⟩ := bIf_some h
  cases h
  refine le_round_of _ _ ?_
  simp only [bAnd_eq, iLt_eq, iLe_eq] at c
  show (if decide (0 ≤ a) && (decide (0 < n) && decide (n ≤ 100000)) then some (roundN a.toNat n.toNat) else none) = _
  refine (if_pos c).trans ?_
  rw [rndN_eq, nOf_eq, nOf_eq]
  unfold roundN
  rw [List.range_eq_range']; try rfl
noncomputable def trnN (a n k : Nat) : Nat → Option Int := Nat.rec (motive := fun _ => Nat → Option Int) (fun _ => none) (fun _ ih i => bIf (Nat.beq (Nat.mod (Nat.mul a i) n) 1) (some (.ofNat i)) (ih (Nat.succ i))) k
theorem trnN_eq (a n : Nat) : ∀ (k i : Nat), eO eI (trnN a n k i) = (match findR (fun (u : Unit) (_ : Nat) => u) (fun _ i => if a * i % n = 1 then some (D.int (i : Int)) else none) (List.range' i k) () with | .inl d => d | .inr _ => .non)
  | 0, i => rfl
  | k + 1, i => by
    rw [List.range'_succ]
    show eO eI (bIf (Nat.beq (a * i % n) 1) (some (.ofNat i)) (trnN a n k (Nat.succ i))) = (match (match (if a * i % n = 1 then some (D.int (i : Int)) else none) with | some d => Sum.inl d | none => findR (fun (u : Unit) (_ : Nat) => u) (fun _ i => if a * i % n = 1 then some (D.int (i : Int)) else none) (List.range' (i + 1) k) ()) with | .inl d => d | .inr _ => .non)
    rw [bIf_eq]
    by_cases h : a * i % n = 1
    · rw [if_pos h, if_pos (by rw [Nat.beq_eq]; exact h)]; rfl
    · rw [if_neg h, if_neg (by rw [Nat.beq_eq]; exact h)]
      exact trnN_eq a n k (i + 1)
noncomputable def t_turned_number (a n : Int) : Option (Option Int) := bIf (bAnd (iLe (.ofNat 0) a) (bAnd (iLt (.ofNat 0) n) (iLe n (.ofNat 100000)))) (some (trnN (nOf a) (nOf n) (nOf n) 0)) none
theorem T_turned_number (a n : Int) : ∀ r, t_turned_number a n = some r → m_turned_number [eI a, eI n] = some (eO eI r) := fun r h => by
  obtain ⟨c, h⟩ := bIf_some h
  cases h
  refine le_turned_number _ _ ?_
  simp only [bAnd_eq, iLt_eq, iLe_eq] at c
  show (if decide (0 ≤ a) && (decide (0 < n) && decide (n ≤ 100000)) then some (turnN a.toNat n.toNat) else none) = _
  refine (if_pos c).trans ?_
  rw [trnN_eq, nOf_eq, nOf_eq]
  unfold turnN
  rw [List.range_eq_range']; try rfl
end SK

set_option Elab.async false
set_option linter.all false
set_option maxRecDepth 100000
set_option maxHeartbeats 4000000
set_option autoImplicit false
namespace SK
open PySem PySem.Spec PyProof.Rows L2
/-! ### runs that end in True -/
noncomputable def isT (t : Option Bool) : Bool := Option.rec (motive := fun _ => Bool) false (fun b => b) t
theorem isT_eq {t : Option Bool} : isT t = true ↔ t = some true := by
  cases t with
  | none => exact ⟨fun h => (nomatch h), fun h => (nomatch h)⟩
  | some b =>
    cases b with
    | false => exact ⟨fun h => (nomatch h), fun h => (nomatch h)⟩
    | true => exact ⟨fun _ => rfl, fun _ => rfl⟩
abbrev Run := Option (Res Unit Unit Bool)
noncomputable def okR1 (t : Run) : Bool := isT (tRun t)
theorem okR1_eq {t : Run} : okR1 t = true ↔ tRun t = some true := isT_eq
section
variable {α σ : Type}
theorem pre_bind {t : Option α} {k k' : α → Run} (h : ∀ x, t = some x → okR1 (k x) = true → okR1 (k' x) = true) : okR1 (tBind t k) = true → okR1 (tBind t k') = true := by
  cases t with
  | none => intro h; cases h
  | some x => exact h x rfl
theorem pre_let {x : α} {k k' : α → Run} (h : okR1 (k x) = true → okR1 (k' x) = true) : okR1 (tLet x k) = true → okR1 (tLet x k') = true := h
theorem pre_lp {t : Option (Lp σ Bool)} {k k' : σ → Run} (h : ∀ s, t = some (.go s) → okR1 (k s) = true → okR1 (k' s) = true) : okR1 (tLp t k) = true → okR1 (tLp t k') = true := by
  cases t with
  | none => intro h; cases h
  | some r => cases r with
    | go s => exact h s rfl
    | out r => exact fun h => h
theorem pre_if {c : Bool} {a b b' : Run} (h : c = false → okR1 b = true → okR1 b' = true) : okR1 (bIf c a b) = true → okR1 (bIf c a b') = true := by
  cases c with
  | false => exact h rfl
  | true => exact fun h => h
theorem pre_sq {t : Option (Res σ Unit Bool)} {k k' : σ → Run} (h : ∀ s, okR1 (k s) = true → okR1 (k' s) = true) : okR1 (tSq t k) = true → okR1 (tSq t k') = true := by
  cases t with
  | none => intro h; cases h
  | some r => cases r with
    | nx s => exact h s
    | rt r => exact fun h => h
    | bk r => exact fun h => h
    | ct r => exact fun h => h
/-- a drawn place of a list: what stands there -/
theorem drawnE {xs : List α} {i : Int} (hi : 0 ≤ i) (hn : xs ≠ []) : ∃ x ∈ xs, ∀ (β : Type) (k : α → Option β), (tBind (tMod i (iLen xs)) fun j => tBind (tIx xs j) k) = k x := by
  have hl : 0 < xs.length := List.length_pos_iff.mpr hn
  have h0 := Int.emod_nonneg i (show (xs.length : Int) ≠ 0 by omega)
  have h1 := Int.emod_lt_of_pos i (show 0 < (xs.length : Int) by omega)
  refine ⟨xs[(i % (xs.length : Int)).toNat]'(by omega), List.getElem_mem _, fun β k => ?_⟩
  rw [tMod_eq, iLen_eq, if_pos (by omega)]
  show tBind (tIx xs (i % (xs.length : Int))) k = _
  rw [tIx_eq, atI_some h0 h1]; rfl
/-- a drawn place of a list -/
theorem drawn {xs : List α} {k : α → Run} {i : Int} (hi : 0 ≤ i) (hn : xs ≠ []) (h : ∀ x ∈ xs, okR1 (k x) = true) : okR1 (tBind (tMod i (iLen xs)) fun j => tBind (tIx xs j) k) = true := by
  have hl : 0 < xs.length := List.length_pos_iff.mpr hn
  rw [tMod_eq, iLen_eq, if_pos (by omega)]
  show okR1 (tBind (tIx xs (i % (xs.length : Int))) k) = true
  have h0 := Int.emod_nonneg i (show (xs.length : Int) ≠ 0 by omega)
  have h1 := Int.emod_lt_of_pos i (show 0 < (xs.length : Int) by omega)
  rw [tIx_eq, atI_some h0 h1]
  exact h _ (List.getElem_mem _)
end
theorem tIx_nat {xs : List Int} {k : Nat} (h : k < xs.length) : tIx xs (.ofNat k) = some (xs.getD k 0) := by
  rw [tIx_eq, Int.ofNat_eq_natCast]
  exact atI_nat (gD_at h)
/-! sets of small numbers as one number -/
noncomputable def maskN (xs : List Int) : Nat := List.rec (motive := fun _ => Nat) 0 (fun x _ m => Int.rec (motive := fun _ => Nat) (fun a => Nat.lor m (Nat.shiftLeft 1 a)) (fun _ => m) x) xs
noncomputable def bitN (m : Nat) (i : Int) : Bool := Int.rec (motive := fun _ => Bool) (fun a => Nat.beq (Nat.land 1 (Nat.shiftRight m a)) 1) (fun _ => false) i
theorem bitN_test (m a : Nat) : bitN m (.ofNat a) = m.testBit a := by
  show Nat.beq (1 &&& (m >>> a)) 1 = (1 &&& (m >>> a) != 0)
  have : 1 &&& (m >>> a) ≤ 1 := Nat.and_le_left
  generalize 1 &&& (m >>> a) = x at this ⊢
  match x, this with
  | 0, _ => rfl
  | 1, _ => rfl
theorem maskN_mem : ∀ (xs : List Int) (i : Int), bitN (maskN xs) i = true → i ∈ xs
  | xs, .negSucc _, h => nomatch h
  | [], .ofNat a, h => by
    rw [bitN_test] at h
    have : Nat.testBit 0 a = true := h
    rw [Nat.zero_testBit] at this; cases this
  | .negSucc b :: xs, .ofNat a, h => List.mem_cons_of_mem _ (maskN_mem xs (.ofNat a) h)
  | .ofNat b :: xs, .ofNat a, h => by
    rw [bitN_test] at h
    have h : Nat.testBit (maskN xs ||| (1 <<< b)) a = true := h
    rw [Nat.testBit_or, Bool.or_eq_true] at h
    rcases h with h | h
    · exact List.mem_cons_of_mem _ (maskN_mem xs (.ofNat a) (by rw [bitN_test]; exact h))
    · rw [Nat.testBit_shiftLeft] at h
      simp only [Bool.and_eq_true, decide_eq_true_eq] at h
      have : a = b := by
        have h2 := h.2
        by_cases e : a = b
        · exact e
        · have : 0 < a - b := by omega
          obtain ⟨c, hc⟩ := Nat.exists_eq_succ_of_ne_zero (Nat.ne_of_gt this)
          rw [hc, Nat.testBit_one_eq_true_iff_self_eq_zero] at h2
          cases h2
      subst this; exact List.mem_cons_self
theorem tIn_of {xs : List Int} {i : Int} (h : i ∈ xs) : tIn iEq i xs = true := by
  rw [tIn_any]
  exact List.any_eq_true.mpr ⟨i, h, by rw [iEq_eq]; exact decide_eq_true rfl⟩
noncomputable def allL {α : Type} (p : α → Bool) (xs : List α) : Bool := List.rec (motive := fun _ => Bool) true (fun x _ ih => bIf (p x) ih false) xs
theorem allL_mem {α : Type} {p : α → Bool} : ∀ {xs : List α}, allL p xs = true → ∀ x ∈ xs, p x = true
  | [], _, x, hx => absurd hx List.not_mem_nil
  | y :: ys, h, x, hx => by
    have h : bIf (p y) (allL p ys) false = true := h
    rw [bIf_eq] at h
    by_cases c : p y = true
    · rw [if_pos c] at h
      rcases List.mem_cons.mp hx with rfl | hx
      · exact c
      · exact allL_mem h x hx
    · rw [if_neg c] at h; cases h
/-- below n -/
noncomputable def allB (p : Nat → Bool) (n : Nat) : Bool := Nat.rec (motive := fun _ => Bool) true (fun k ih => bIf (p k) ih false) n
theorem allB_lt {p : Nat → Bool} : ∀ {n : Nat}, allB p n = true → ∀ k, k < n → p k = true
  | 0, _, k, hk => absurd hk (Nat.not_lt_zero k)
  | n + 1, h, k, hk => by
    have h : bIf (p n) (allB p n) false = true := h
    rw [bIf_eq] at h
    by_cases c : p n = true
    · rw [if_pos c] at h
      by_cases e : k = n
      · subst e; exact c
      · exact allB_lt h k (by omega)
    · rw [if_neg c] at h; cases h
theorem tBind_ok {α β : Type} {x : α} {k : α → Option β} : tBind (some x) k = k x := rfl
theorem tLet_ok {α β : Type} {x : α} {k : α → β} : tLet x k = k x := rfl
theorem tSq_ok {σ σ' τ ρ : Type} {s : σ} {k : σ → Option (Res σ' τ ρ)} : tSq (some (.nx s)) k = k s := rfl
theorem bIf_t {α : Type} {x y : α} : bIf true x y = x := rfl
theorem bIf_f {α : Type} {x y : α} : bIf false x y = y := rfl
/-- a cell of the drawn row -/
theorem cell {row : List Int} (hr : ∀ x ∈ row, 0 ≤ x ∧ x < 1000003) (k : Nat) (hk : k < row.length) : ∃ c : Nat, tIx row (.ofNat k) = some (.ofNat c) := by
  have h0 := (hr row[k] (List.getElem_mem _)).1
  obtain ⟨c, hc⟩ := Int.eq_ofNat_of_zero_le h0
  refine ⟨c, ?_⟩
  rw [tIx_eq, Int.ofNat_eq_natCast]
  refine (atI_nat (List.getElem?_eq_getElem hk)).trans ?_
  rw [hc]; rfl
end SK

set_option Elab.async false
set_option linter.all false
set_option maxRecDepth 100000
set_option maxHeartbeats 4000000
set_option autoImplicit false
namespace SK
open PySem PySem.Spec PyProof.Rows L2
/-! ### alike but for multiples of q -/
def M (q a b : Int) : Prop := ∃ k, a = b + q * k
theorem M.refl (q a : Int) : M q a a := ⟨0, by rw [Int.mul_zero, Int.add_zero]⟩
theorem M.symm {q a b : Int} (h : M q a b) : M q b a := by obtain ⟨k, rfl⟩ := h; exact ⟨-k, by rw [Int.mul_neg]; omega⟩
theorem M.trans {q a b c : Int} (h : M q a b) (h2 : M q b c) : M q a c := by
  obtain ⟨k, rfl⟩ := h; obtain ⟨l, rfl⟩ := h2; exact ⟨l + k, by rw [Int.mul_add]; omega⟩
theorem M.add {q a b c d : Int} (h : M q a b) (h2 : M q c d) : M q (a + c) (b + d) := by
  obtain ⟨k, rfl⟩ := h; obtain ⟨l, rfl⟩ := h2; exact ⟨k + l, by rw [Int.mul_add]; omega⟩
theorem M.sub {q a b c d : Int} (h : M q a b) (h2 : M q c d) : M q (a - c) (b - d) := by
  obtain ⟨k, rfl⟩ := h; obtain ⟨l, rfl⟩ := h2; exact ⟨k - l, by rw [Int.mul_sub]; omega⟩
theorem M.neg {q a b : Int} (h : M q a b) : M q (-a) (-b) := by
  obtain ⟨k, rfl⟩ := h; exact ⟨-k, by rw [Int.mul_neg]; omega⟩
theorem M.mul {q a b c d : Int} (h : M q a b) (h2 : M q c d) : M q (a * c) (b * d) := by
  obtain ⟨k, rfl⟩ := h; obtain ⟨l, rfl⟩ := h2
  exact ⟨k * d + b * l + q * (k * l), by grind⟩
theorem M.mod (q a : Int) : M q (a % q) a := ⟨-(a / q), by have := Int.mul_ediv_add_emod a q; rw [Int.mul_neg]; omega⟩
theorem M.via {q a b c d : Int} (h : M q a c) (h2 : M q b d) (e : c = d) : M q a b := h.trans (e ▸ h2.symm)
theorem M.emod {q a b : Int} (h : M q a b) : a % q = b % q := by obtain ⟨k, rfl⟩ := h; exact Int.add_mul_emod_self_left b q k
theorem M.of {q a b : Int} (h : a % q = b % q) : M q a b := (M.mod q a).symm.trans (h ▸ M.mod q b)
theorem M.mult {q a : Int} (k : Int) : M q (a + q * k) a := ⟨k, rfl⟩
theorem M.mods {q a b : Int} (h : M q a b) : M q (a % q) b := (M.mod q a).trans h
theorem tUpN_len : ∀ (n : Nat) (a : Int), (tUpN a n).length = n
  | 0, _ => rfl
  | n + 1, a => by show (a :: tUpN (iAdd a (.ofNat 1)) n).length = n + 1; rw [List.length_cons, tUpN_len n]
theorem tUpN_mem : ∀ (n : Nat) (a : Int) {x : Int}, x ∈ tUpN a n → a ≤ x ∧ x < a + n
  | 0, a, x, h => absurd h List.not_mem_nil
  | n + 1, a, x, h => by
    have h : x ∈ a :: tUpN (iAdd a (.ofNat 1)) n := h
    rcases List.mem_cons.mp h with rfl | h
    · omega
    · have := tUpN_mem n _ h
      rw [iAdd_eq, Int.ofNat_eq_natCast] at this; omega
theorem mem_tUpN : ∀ (n : Nat) (a : Int) {x : Int}, a ≤ x → x < a + n → x ∈ tUpN a n
  | 0, a, x, h, h2 => by omega
  | n + 1, a, x, h, h2 => by
    show x ∈ a :: tUpN (iAdd a (.ofNat 1)) n
    by_cases e : x = a
    · subst e; exact List.mem_cons_self
    · exact List.mem_cons_of_mem _ (mem_tUpN n _ (by rw [iAdd_eq, Int.ofNat_eq_natCast]; omega) (by rw [iAdd_eq, Int.ofNat_eq_natCast]; omega))
theorem tAllO_map {α β : Type} {f : α → Option β} {h : α → β} : ∀ {xs : List α}, (∀ x ∈ xs, f x = some (h x)) → tAllO f xs = some (xs.map h)
  | [], _ => rfl
  | x :: xs, e => by
    show tBind (f x) (fun y => tBind (tAllO f xs) fun ys => some (y :: ys)) = _
    rw [e x List.mem_cons_self, tBind_ok, tAllO_map fun y hy => e y (List.mem_cons_of_mem _ hy)]; rfl
theorem tAllO_idx' {α β : Type} {xs : List α} {F : Int → Option β} {f : α → β} (h : ∀ (k : Nat) (hk : k < xs.length), F (k : Int) = some (f xs[k])) : ∀ (n i : Nat), i + n = xs.length → tAllO F (tUpN (i : Int) n) = some ((xs.drop i).map f)
  | 0, i, e => by rw [List.drop_eq_nil_of_le (by omega)]; rfl
  | n + 1, i, e => by
    have hi : i < xs.length := by omega
    have e1 : iAdd (i : Int) (Int.ofNat 1) = ((i + 1 : Nat) : Int) := by rw [iAdd_eq]; rfl
    show tBind (F (i : Int)) (fun y => tBind (tAllO F (tUpN (iAdd (i : Int) (.ofNat 1)) n)) fun ys => some (y :: ys)) = _
    rw [h i hi, tBind_ok, e1, tAllO_idx' h n (i + 1) (by omega), ← List.getElem_cons_drop hi]; rfl
theorem tAllO_idx {α β : Type} {xs : List α} {F : Int → Option β} {f : α → β} (h : ∀ (k : Nat) (hk : k < xs.length), F (k : Int) = some (f xs[k])) : tAllO F (tUpN 0 xs.length) = some (xs.map f) := by
  have := tAllO_idx' h xs.length 0 (by omega)
  rwa [List.drop_zero] at this
theorem tIx_get {α : Type} {xs : List α} {k : Nat} (h : k < xs.length) : tIx xs (k : Int) = some xs[k] := (tIx_eq xs k).trans (atI_nat (List.getElem?_eq_getElem h))
theorem tFilO_map {α β : Type} {f : α → Option β} {h : α → β} : ∀ {xs : List α}, (∀ x ∈ xs, f x = some (h x)) → tFilO (fun _ => some true) f xs = some (xs.map h)
  | [], _ => rfl
  | x :: xs, e => by
    show tBind (f x) (fun y => tBind (tFilO (fun _ => some true) f xs) fun ys => some (y :: ys)) = _
    rw [e x List.mem_cons_self, tBind_ok, tFilO_map fun y hy => e y (List.mem_cons_of_mem _ hy)]; rfl
theorem tFlat_map {α β : Type} {f : α → Option (List β)} {h : α → List β} : ∀ {xs : List α}, (∀ x ∈ xs, f x = some (h x)) → tFlat (fun _ => some true) f xs = some (xs.flatMap h)
  | [], _ => rfl
  | x :: xs, e => by
    show tBind (f x) (fun y => tBind (tFlat (fun _ => some true) f xs) fun ys => some (y ++ ys)) = _
    rw [e x List.mem_cons_self, tBind_ok, tFlat_map fun y hy => e y (List.mem_cons_of_mem _ hy)]; rfl
theorem tLim_ok {α : Type} {xs : List α} (h : xs.length ≤ 16777216) : tLim xs = some xs := by
  unfold tLim
  rw [tLenN_eq, bIf_eq, if_pos (Nat.ble_eq.mpr h)]
theorem tApp_ok {α : Type} {xs : List α} {x : α} (h : xs.length < 16777216) : tApp xs x = some (xs ++ [x]) := by
  unfold tApp
  rw [tCat_eq, tLim_ok]
  rw [List.length_append]; exact h
theorem tAllB_ok {α : Type} (xs : List α) : tAllB (xs.map fun _ => true) = true := by
  rw [tAllB_eq, List.all_map, List.all_eq_true]; exact fun _ _ => rfl
/-- insertion sorts: a rearrangement, the same for rearranged lists -/
theorem tInsK_perm {α : Type} (k : α → List Int) (x : α) : ∀ ys, (tInsK k x ys).Perm (x :: ys)
  | [] => List.Perm.refl _
  | y :: ys => by
    show (bIf (lexT (k y) (k x)) (y :: tInsK k x ys) (x :: y :: ys)).Perm _
    rw [bIf_eq]
    split
    · exact ((tInsK_perm k x ys).cons y).trans (.swap x y ys)
    · exact List.Perm.refl _
theorem tSortK_perm {α : Type} (k : α → List Int) : ∀ xs, (tSortK k xs).Perm xs
  | [] => List.Perm.refl _
  | x :: xs => (tInsK_perm k x _).trans ((tSortK_perm k xs).cons x)
theorem map_inj {α β : Type} {k : α → β} (hk : ∀ a b, k a = k b → a = b) : ∀ {xs ys : List α}, xs.map k = ys.map k → xs = ys
  | [], [], _ => rfl
  | [], _ :: _, h => by cases h
  | _ :: _, [], h => by cases h
  | x :: xs, y :: ys, h => by
    rw [List.map_cons, List.map_cons] at h
    injection h with h1 h2
    rw [hk _ _ h1, map_inj hk h2]
theorem tSortK_same {α : Type} {k : α → List Int} (hk : ∀ a b, k a = k b → a = b) {xs ys : List α} (h : xs.Perm ys) : tSortK k xs = tSortK k ys := by
  refine map_inj hk ?_
  rw [tSortK_map, tSortK_map]
  exact sortL_eq ((sortL_perm _).trans (h.map k)) (sortL_sorted _)
/-! ### the group of the powers of g -/
structure Gp (p q g : Nat) : Prop where
  p1 : 1 < p
  p2 : p < 1000
  q1 : 1 < q
  q2 : q < 1000
  g1 : g < p
  gq : g ^ q % p = 1
  inj : ∀ i, i < q → ∀ j, j < q → g ^ i % p = g ^ j % p → i = j
  pq : (p - 1) % q = 0
def GI (p q g : Nat) (z : Int) : Int := ((g ^ (z % (q : Int)).toNat % p : Nat) : Int)
section
variable {p q g : Nat} (G : Gp p q g)
include G
theorem Gp.pow_q (k : Nat) : g ^ (q * k) % p = 1 := by
  have := G.p1
  rw [Nat.pow_mul, Nat.pow_mod, G.gq, Nat.one_pow, Nat.mod_eq_of_lt this]
theorem Gp.pow_mod (n : Nat) : g ^ (n % q) % p = g ^ n % p := by
  conv => rhs; rw [← Nat.div_add_mod n q, Nat.pow_add, Nat.mul_mod, G.pow_q, Nat.one_mul, Nat.mod_mod]
theorem Gp.nat (n : Nat) : GI p q g n = ((g ^ n % p : Nat) : Int) := by
  unfold GI
  have e : ((n : Int) % (q : Int)).toNat = n % q := by rw [← Int.natCast_emod]; exact Int.toNat_natCast _
  rw [e, G.pow_mod]
theorem Gp.cong {a b : Int} (h : M q a b) : GI p q g a = GI p q g b := by unfold GI; rw [h.emod]
theorem Gp.qpos : (0 : Int) < q := by have := G.q1; omega
theorem Gp.ppos : (0 : Int) < p := by have := G.p1; omega
theorem Gp.rep (a : Int) : ∃ n : Nat, n < q ∧ M q a n ∧ GI p q g a = ((g ^ n % p : Nat) : Int) := by
  have h0 := Int.emod_nonneg a (Int.ne_of_gt G.qpos)
  have h1 := Int.emod_lt_of_pos a G.qpos
  refine ⟨(a % (q : Int)).toNat, by omega, ?_, rfl⟩
  rw [Int.toNat_of_nonneg h0]; exact (M.mod _ _).symm
theorem Gp.mul (a b : Int) : GI p q g a * GI p q g b % (p : Int) = GI p q g (a + b) := by
  obtain ⟨m, _, ha, ea⟩ := G.rep a
  obtain ⟨n, _, hb, eb⟩ := G.rep b
  rw [ea, eb, G.cong (ha.add hb), ← Int.natCast_add, G.nat, ← Int.natCast_mul, ← Int.natCast_emod, Nat.pow_add, ← Nat.mul_mod]
theorem Gp.powN (a : Int) (e : Nat) : (((GI p q g a).toNat ^ e % p : Nat) : Int) = GI p q g (a * e) := by
  obtain ⟨m, _, ha, ea⟩ := G.rep a
  rw [ea, G.cong (ha.mul (M.refl _ (e : Int))), ← Int.natCast_mul, G.nat, Int.toNat_natCast, Nat.pow_mul, ← Nat.pow_mod]
theorem Gp.nonneg (a : Int) : 0 ≤ GI p q g a := Int.natCast_nonneg _
theorem Gp.lt (a : Int) : GI p q g a < p := by
  have : g ^ (a % (q : Int)).toNat % p < p := Nat.mod_lt _ (by have := G.p1; omega)
  unfold GI; omega
theorem Gp.lt1000 (a : Int) : GI p q g a < 1000 := by have := G.lt a; have := G.p2; omega
theorem Gp.inj' {a b : Int} (h : GI p q g a = GI p q g b) : a % (q : Int) = b % (q : Int) := by
  obtain ⟨m, hm, ha, ea⟩ := G.rep a
  obtain ⟨n, hn, hb, eb⟩ := G.rep b
  rw [ea, eb] at h
  have := G.inj m hm n hn (by omega)
  subst this
  exact (ha.trans hb.symm).emod
theorem Gp.iff {a b : Int} : GI p q g a = GI p q g b ↔ a % (q : Int) = b % (q : Int) := ⟨G.inj', fun h => G.cong (M.of h)⟩
theorem Gp.one : GI p q g 1 = (g : Int) := by
  have := G.nat 1
  rw [Nat.pow_one, Nat.mod_eq_of_lt G.g1] at this; exact this
theorem Gp.zero : GI p q g 0 = 1 := by
  have := G.nat 0
  rw [Nat.pow_zero, Nat.mod_eq_of_lt G.p1] at this; exact this
end
/-! ### typed steps -/
theorem yMul_l {a b : Int} (h : 0 ≤ a) (h2 : a < 1000000000000) : yMul a b = some (a * b) := by
  unfold yMul
  rw [bIf_eq, if_pos, iMul_eq]
  have : sm64 a = true := by
    unfold sm64
    rw [Nat.ble_eq, nAbs_eq]; omega
  rw [bOr_eq, this, Bool.or_true]
theorem yMul_r {a b : Int} (h : 0 ≤ b) (h2 : b < 1000000000000) : yMul a b = some (a * b) := by
  unfold yMul
  rw [bIf_eq, if_pos, iMul_eq]
  have : sm64 b = true := by
    unfold sm64
    rw [Nat.ble_eq, nAbs_eq]; omega
  rw [bOr_eq, this, Bool.true_or]
theorem tMod_p {a n : Int} (h : 0 < n) : tMod a n = some (a % n) := by rw [tMod_eq, if_pos h]
theorem tRng_n {n : Nat} (h : n ≤ 1000000) : tRng (.ofNat 0) (n : Int) = some (tUpN 0 n) := by
  unfold tRng
  rw [bIf_eq, if_pos]
  · rw [iSub_eq, show ((n : Int) - Int.ofNat 0).toNat = n from by simp]; rfl
  · simp only [bAnd_eq, iLe_eq, Bool.and_eq_true, decide_eq_true_eq, Int.ofNat_eq_natCast]
    refine ⟨⟨⟨?_, ?_⟩, ?_⟩, ?_⟩ <;> omega
theorem yFor_cons {α σ ρ : Type} (f : σ → α → Option (Res σ σ ρ)) (x : α) (xs : List α) (s : σ) :
    yFor f (x :: xs) s = tBind (f s x) fun r => Res.rec (motive := fun _ => Option (Lp σ ρ)) (yFor f xs) (fun r => some (.out r)) (fun s => some (.go s)) (yFor f xs) r := rfl
theorem yF_nx {α σ ρ : Type} {f : σ → α → Option (Res σ σ ρ)} {x : α} {xs : List α} {s s' : σ} (h : f s x = some (.nx s')) : yFor f (x :: xs) s = yFor f xs s' := by
  rw [yFor_cons, h]; rfl
theorem lp_nx {α σ ρ σ' τ : Type} {f : σ → α → Option (Res σ σ ρ)} {x : α} {xs : List α} {s s' : σ} {k : σ → Option (Res σ' τ ρ)} (h : f s x = some (.nx s')) : tLp (yFor f (x :: xs) s) k = tLp (yFor f xs s') k := by
  rw [yFor_cons, h]; rfl
theorem lp_rt {α σ ρ σ' τ : Type} {f : σ → α → Option (Res σ σ ρ)} {x : α} {xs : List α} {s : σ} {k : σ → Option (Res σ' τ ρ)} {r : ρ} (h : f s x = some (.rt r)) : tLp (yFor f (x :: xs) s) k = some (.rt r) := by
  rw [yFor_cons, h]; rfl
theorem lp_nil {α σ ρ σ' τ : Type} {f : σ → α → Option (Res σ σ ρ)} {s : σ} {k : σ → Option (Res σ' τ ρ)} : tLp (yFor f [] s) k = k s := rfl
theorem lp_find {σ ρ σ' τ : Type} {f : σ → Int → Option (Res σ σ ρ)} {s : σ} {k : σ → Option (Res σ' τ ρ)} {r : ρ} : ∀ (x n : Nat) (a : Int), x < n → (∀ i : Int, a ≤ i → i < a + x → f s i = some (.nx s)) → f s (a + x) = some (.rt r) →
    tLp (yFor f (tUpN a n) s) k = some (.rt r)
  | 0, n + 1, a, _, _, h => lp_rt (by have h := h; rw [show a + ((0 : Nat) : Int) = a by omega] at h; exact h)
  | x + 1, n + 1, a, hx, h1, h2 => by
    show tLp (yFor f (a :: tUpN (iAdd a (.ofNat 1)) n) s) k = _
    rw [lp_nx (h1 a (by omega) (by omega))]
    have e : iAdd a (.ofNat 1) = a + 1 := by rw [iAdd_eq]; rfl
    rw [e]
    exact lp_find x n (a + 1) (by omega) (fun i hi hj => h1 i (by omega) (by omega)) (by rw [show a + 1 + (x : Int) = a + ((x + 1 : Nat) : Int) by omega]; exact h2)
/-- a power by that many products -/
noncomputable def tLawPow (a_a : Int) (a_e : Int) (a_n : Int) : Option Int := tRun
  (tLet (Int.ofNat 1) fun found_1 =>
  (tBind (tRng (Int.ofNat 0) a_e) fun v2 =>
  (tLp (yFor (fun (s3 : Int) (x4 : Int) =>
  (tBind (yMul s3 a_a) fun v5 =>
  (tBind (tMod v5 a_n) fun v6 =>
  (tLet v6 fun found_7 =>
  (some (.nx found_7)))))) v2 found_1) fun s3 =>
  (some (.rt s3)))))
theorem lawPow_loop {a n : Nat} (ha : a < 1000) (hn : 0 < n) : ∀ (k : Nat) (i : Int) (s : Nat), yFor (fun (s3 : Int) (x4 : Int) =>
  (tBind (yMul s3 (a : Int)) fun v5 =>
  (tBind (tMod v5 (n : Int)) fun v6 =>
  (tLet v6 fun found_7 =>
  (some (Res.nx (τ := Int) (ρ := Int) found_7)))))) (tUpN i k) ((s % n : Nat) : Int) = some (.go ((s * a ^ k % n : Nat) : Int))
  | 0, i, s => by rw [Nat.pow_zero, Nat.mul_one]; rfl
  | k + 1, i, s => by
    show yFor _ (i :: tUpN (iAdd i (.ofNat 1)) k) _ = _
    rw [yFor_cons, yMul_r (by omega) (by omega), tBind_ok, tMod_p (by omega), tBind_ok]
    have e : ((s % n : Nat) : Int) * (a : Int) % (n : Int) = ((s * a % n : Nat) : Int) := by
      rw [← Int.natCast_mul, ← Int.natCast_emod, Nat.mod_mul_mod]
    rw [e]
    refine (lawPow_loop ha hn k (iAdd i (.ofNat 1)) (s * a)).trans ?_
    rw [Nat.mul_assoc, ← Nat.pow_succ']
theorem lawPow_eq {a e n : Nat} (ha : a < 1000) (he : e ≤ 1000000) (hn : 1 < n) : tLawPow a e n = some ((a ^ e % n : Nat) : Int) := by
  unfold tLawPow
  rw [tRng_n he]
  have h := lawPow_loop ha (by omega : 0 < n) e 0 1
  rw [Nat.mod_eq_of_lt hn, Nat.one_mul] at h
  show tRun (tLp (yFor _ (tUpN 0 e) ((1 : Nat) : Int)) _) = _
  rw [h]; rfl
section
variable {p q g : Nat} (G : Gp p q g)
include G
theorem Gp.lp (a : Int) {e : Int} (h0 : 0 ≤ e) (h1 : e < 1000) : tLawPow (GI p q g a) e p = some (GI p q g (a * e)) := by
  obtain ⟨n, rfl⟩ := Int.eq_ofNat_of_zero_le h0
  obtain ⟨m, hm⟩ := Int.eq_ofNat_of_zero_le (G.nonneg a)
  have := G.lt1000 a
  have := G.powN a n
  rw [hm] at *
  rw [lawPow_eq (by omega) (by omega) G.p1, ← this, Int.toNat_natCast]
theorem Gp.pw (a : Int) {e : Int} (h0 : 0 ≤ e) (h1 : e < 1000000) : t_power_in (GI p q g a) e p = some (GI p q g (a * e)) := by
  obtain ⟨n, rfl⟩ := Int.eq_ofNat_of_zero_le h0
  obtain ⟨m, hm⟩ := Int.eq_ofNat_of_zero_le (G.nonneg a)
  have hp := G.powN a n
  have h2 := G.lt a
  have h3 := G.p1
  have h4 := G.p2
  rw [hm] at h2 hp ⊢
  refine (power_in_eq (a := m) (e := n) (n := p) (by omega) (by omega) (by omega)).trans ?_
  rw [← hp, Int.toNat_natCast, Nat.mod_eq_of_lt (show m < p by omega)]; rfl
theorem Gp.ym (a b : Int) : yMul (GI p q g a) (GI p q g b) = some (GI p q g a * GI p q g b) := yMul_l (G.nonneg a) (by have := G.lt1000 a; omega)
theorem Gp.mm {α : Type} (a b : Int) (k : Int → Option α) : (tBind (yMul (GI p q g a) (GI p q g b)) fun v => tBind (tMod v p) k) = k (GI p q g (a + b)) := by
  rw [G.ym, tBind_ok, tMod_p G.ppos, G.mul]; rfl
theorem Gp.md {α : Type} (a : Int) (k : Int → Option α) : tBind (tMod a q) k = k (a % (q : Int)) := by rw [tMod_p G.qpos]; rfl
theorem Gp.mod0 (a : Int) : 0 ≤ a % (q : Int) := Int.emod_nonneg _ (Int.ne_of_gt G.qpos)
theorem Gp.mod1 (a : Int) : a % (q : Int) < q := Int.emod_lt_of_pos _ G.qpos
theorem Gp.mod2 (a : Int) : a % (q : Int) < 1000 := by have := G.mod1 a; have := G.q2; omega
end
/-- Gp, told by a run -/
noncomputable def gpB (p q g : Nat) : Bool := bAnd (Nat.blt 1 p) (bAnd (Nat.blt p 1000) (bAnd (Nat.blt 1 q) (bAnd (Nat.blt q 1000) (bAnd (Nat.blt g p) (bAnd (Nat.beq (Nat.mod (Nat.pow g q) p) 1)
  (bAnd (allB (fun i => allB (fun j => bOr (Nat.beq i j) (bNot (Nat.beq (Nat.mod (Nat.pow g i) p) (Nat.mod (Nat.pow g j) p)))) q) q) (Nat.beq (Nat.mod (Nat.sub p 1) q) 0)))))))
theorem gp_of {p q g : Nat} (h : gpB p q g = true) : Gp p q g := by
  unfold gpB at h
  simp only [bAnd_eq, Bool.and_eq_true, Nat.blt_eq, Nat.beq_eq] at h
  obtain ⟨h1, h2, h3, h4, h5, h6, h7, h8⟩ := h
  refine ⟨h1, h2, h3, h4, h5, h6, fun i hi j hj e => ?_, h8⟩
  have := allB_lt (allB_lt h7 i hi) j hj
  rw [bOr_eq, Bool.or_eq_true, Nat.beq_eq, bNot_eq, Bool.not_eq_true'] at this
  refine this.resolve_right fun z => ?_
  have e2 : ((g.pow i).mod p).beq ((g.pow j).mod p) = true := by rw [Nat.beq_eq]; exact e
  rw [e2] at z; cases z
end SK

set_option Elab.async false
set_option linter.all false
set_option maxRecDepth 100000
set_option maxHeartbeats 4000000
set_option autoImplicit false
namespace SK
open PySem PySem.Spec PyProof.Rows L2

/-! ### typed dicts: pairs in the order of their first store -/
def eA {α : Type} (e : α → D) (L : List (Int × α)) : D := .dic (L.map Prod.fst) (L.map fun p => e p.2)
def eAT {α : Type} (e : α → D) (L : List (List Int × α)) : D := .dit (L.map Prod.fst) (L.map fun p => e p.2)
noncomputable def tFnd {κ α : Type} (q : κ → κ → Bool) (L : List (κ × α)) (k : κ) : Option α := List.rec (motive := fun _ => Option α) none (fun p _ ih => bIf (q p.1 k) (some p.2) ih) L
noncomputable def tSome {α : Type} (o : Option α) : Bool := Option.rec (motive := fun _ => Bool) false (fun _ => true) o
noncomputable def tOr {α : Type} (o : Option α) (d : α) : α := Option.rec (motive := fun _ => α) d (fun x => x) o
noncomputable def tRepK {κ α : Type} (q : κ → κ → Bool) (L : List (κ × α)) (k : κ) (v : α) : List (κ × α) := List.rec (motive := fun _ => List (κ × α)) [] (fun p _ ih => (p.1, bIf (q p.1 k) v p.2) :: ih) L
noncomputable def tPutK {κ α : Type} (q : κ → κ → Bool) (L : List (κ × α)) (k : κ) (v : α) : List (κ × α) := bIf (tSome (tFnd q L k)) (tRepK q L k v) (tCat L [(k, v)])
noncomputable def tPut {κ α : Type} (q : κ → κ → Bool) (L : List (κ × α)) (k : κ) (v : α) : Option (List (κ × α)) := bIf (Nat.ble (Nat.succ (tLenN L)) 16777216) (some (tPutK q L k v)) none
section
variable {κ α : Type} [DecidableEq κ] {q : κ → κ → Bool} {e : α → D}
theorem fnd_typed (hq : ∀ a b, q a b = decide (a = b)) (k : κ) : ∀ L : List (κ × α), fnd (L.map Prod.fst) (L.map fun p => e p.2) k = (tFnd q L k).map e
  | [] => rfl
  | p :: L => by
    show (if p.1 = k then some (e p.2) else fnd (L.map Prod.fst) (L.map fun p => e p.2) k) = (bIf (q p.1 k) (some p.2) (tFnd q L k)).map e
    rw [hq, bIf_eq, fnd_typed hq k L]
    by_cases h : p.1 = k
    · rw [if_pos h, if_pos (decide_eq_true h)]; rfl
    · rw [if_neg h, if_neg (by rw [decide_eq_false h]; decide)]
theorem tSome_eq {β : Type} (o : Option β) : tSome o = o.isSome := by cases o <;> rfl
theorem has_typed (hq : ∀ a b, q a b = decide (a = b)) (k : κ) : ∀ L : List (κ × α), tSome (tFnd q L k) = decide (k ∈ L.map Prod.fst)
  | [] => rfl
  | p :: L => by
    show tSome (bIf (q p.1 k) (some p.2) (tFnd q L k)) = _
    rw [hq, bIf_eq]
    by_cases h : p.1 = k
    · rw [if_pos (decide_eq_true h), ← h]; simp [tSome]
    · have h' : ¬ k = p.1 := fun z => h z.symm
      rw [if_neg (by rw [decide_eq_false h]; decide), has_typed hq k L]; simp [h']
theorem rep_typed (hq : ∀ a b, q a b = decide (a = b)) (k : κ) (v : α) : ∀ L : List (κ × α), (tRepK q L k v).map Prod.fst = L.map Prod.fst ∧ (tRepK q L k v).map (fun p => e p.2) = repD (L.map Prod.fst) (L.map fun p => e p.2) k (e v)
  | [] => ⟨rfl, rfl⟩
  | p :: L => by
    obtain ⟨h1, h2⟩ := rep_typed hq k v L
    refine ⟨?_, ?_⟩
    · show p.1 :: (tRepK q L k v).map Prod.fst = _; rw [h1]; rfl
    · show e (bIf (q p.1 k) v p.2) :: (tRepK q L k v).map (fun p => e p.2) = (if p.1 = k then e v else e p.2) :: _
      rw [h2, hq, bIf_eq]
      by_cases h : p.1 = k
      · rw [if_pos (decide_eq_true h), if_pos h]
      · rw [if_neg (by rw [decide_eq_false h]; decide), if_neg h]
theorem put_typed (hq : ∀ a b, q a b = decide (a = b)) (k : κ) (v : α) (L : List (κ × α)) : (tPutK q L k v).map Prod.fst = putKs (L.map Prod.fst) k ∧ (tPutK q L k v).map (fun p => e p.2) = putDs (L.map Prod.fst) (L.map fun p => e p.2) k (e v) := by
  unfold tPutK putKs putDs
  rw [has_typed hq, bIf_eq]
  by_cases h : k ∈ L.map Prod.fst
  · rw [if_pos (decide_eq_true h), if_pos h, if_pos h]; exact rep_typed hq k v L
  · rw [if_neg (by rw [decide_eq_false h]; decide), if_neg h, if_neg h, tCat_eq, List.map_append, List.map_append]; exact ⟨rfl, rfl⟩
end
theorem lEqI_eq : ∀ a b : List Int, lEq iEq a b = decide (a = b)
  | [], [] => rfl
  | [], _ :: _ => rfl
  | _ :: _, [] => rfl
  | x :: xs, y :: ys => by
    show bAnd (iEq x y) (lEq iEq xs ys) = _
    rw [lEqI_eq xs ys, iEq_eq, bAnd_eq]
    by_cases h : x = y <;> by_cases h2 : xs = ys <;> simp [h, h2]
noncomputable def tBits (i : Int) : Int := Int.rec (motive := fun _ => Int) (fun a => .ofNat (bIf (Nat.beq a 0) 0 (Nat.succ (Nat.log2 a)))) (fun a => .ofNat (Nat.succ (Nat.log2 (Nat.succ a)))) i
theorem tBits_eq (i : Int) : tBits i = (Builtin.Int.intBits i : Nat) := by
  unfold Builtin.Int.intBits
  cases i with
  | ofNat a =>
    show Int.ofNat (bIf (Nat.beq a 0) 0 (Nat.succ (Nat.log2 a))) = _
    rw [bIf_eq]
    cases a with
    | zero => rfl
    | succ n => rfl
  | negSucc a => rfl
section
variable {α β : Type} {ss : Sp} {a b c : ME} {e : α → D} {L : List (Int × α)} {M : List (List Int × α)} {k : Int} {r : List Int} {x : α}
theorem dAt_A : dAt (eA e L) (eI k) = some ((tFnd iEq L k).map e) := by
  show some (fnd (L.map Prod.fst) (L.map fun p => e p.2) k) = _
  rw [fnd_typed iEq_eq]
theorem dAt_AT : dAt (eAT e M) (eT eI r) = some ((tFnd (lEq iEq) M r).map e) := by
  show (intsOf (r.map D.int)).map (fun k => fnd (M.map Prod.fst) (M.map fun p => e p.2) k) = _
  rw [intsOf_map, Option.map_some, fnd_typed lEqI_eq]
theorem Eo.dget (h : Eg ss a (eA e L)) (h2 : Eg ss b (eI k)) : Eo ss (mBin dGetA a b) e (tFnd iEq L k) := fun x hx => Eg.bin h h2 (by unfold dGetA; rw [dAt_A, hx]; rfl)
theorem Eo.dgetT (h : Eg ss a (eAT e M)) (h2 : Eg ss b (eT eI r)) : Eo ss (mBin dGetA a b) e (tFnd (lEq iEq) M r) := fun x hx => Eg.bin h h2 (by unfold dGetA; rw [dAt_AT, hx]; rfl)
theorem some_map (o : Option α) : (o.map e).isSome = tSome o := by cases o <;> rfl
theorem Eg.inD (h2 : Eg ss b (eI k)) (h : Eg ss a (eA e L)) : Eg ss (mBin dInD b a) (eB (tSome (tFnd iEq L k))) := Eg.bin h2 h (by unfold dInD; rw [dAt_A, Option.map_some, some_map]; rfl)
theorem Eg.inDT (h2 : Eg ss b (eT eI r)) (h : Eg ss a (eAT e M)) : Eg ss (mBin dInD b a) (eB (tSome (tFnd (lEq iEq) M r))) := Eg.bin h2 h (by unfold dInD; rw [dAt_AT, Option.map_some, some_map]; rfl)
theorem Eg.notInD (h2 : Eg ss b (eI k)) (h : Eg ss a (eA e L)) : Eg ss (mBin dNotInD b a) (eB (bNot (tSome (tFnd iEq L k)))) := Eg.bin h2 h (by unfold dNotInD; rw [dAt_A, Option.map_some, some_map]; rfl)
theorem Eg.notInDT (h2 : Eg ss b (eT eI r)) (h : Eg ss a (eAT e M)) : Eg ss (mBin dNotInD b a) (eB (bNot (tSome (tFnd (lEq iEq) M r)))) := Eg.bin h2 h (by unfold dNotInD; rw [dAt_AT, Option.map_some, some_map]; rfl)
theorem Eg.dget1 (h : Eg ss a (eA e L)) (h2 : Eg ss b (eI k)) : Eg ss (mBin dGet1 a b) (eO e (tFnd iEq L k)) := Eg.bin h h2 (by unfold dGet1; rw [dAt_A]; cases tFnd iEq L k <;> rfl)
theorem Eg.dget1T (h : Eg ss a (eAT e M)) (h2 : Eg ss b (eT eI r)) : Eg ss (mBin dGet1 a b) (eO e (tFnd (lEq iEq) M r)) := Eg.bin h h2 (by unfold dGet1; rw [dAt_AT]; cases tFnd (lEq iEq) M r <;> rfl)
theorem Eg.dget2 (h : Eg ss a (eA e L)) (h2 : Eg ss b (eI k)) (h3 : Eg ss c (e x)) : Eg ss (mGet2 a b c) (e (tOr (tFnd iEq L k) x)) := fun Γ m => by
  unfold mGet2; rw [h Γ m, h2 Γ m, h3 Γ m, Option.bind_some, Option.bind_some, Option.bind_some, dAt_A]; cases tFnd iEq L k <;> rfl
theorem Eg.dget2T (h : Eg ss a (eAT e M)) (h2 : Eg ss b (eT eI r)) (h3 : Eg ss c (e x)) : Eg ss (mGet2 a b c) (e (tOr (tFnd (lEq iEq) M r) x)) := fun Γ m => by
  unfold mGet2; rw [h Γ m, h2 Γ m, h3 Γ m, Option.bind_some, Option.bind_some, Option.bind_some, dAt_AT]; cases tFnd (lEq iEq) M r <;> rfl
theorem Eg.dnew : Eg ss (mC (.dic [] [])) (eA e []) := fun _ _ => rfl
theorem Eg.dnewT : Eg ss (mC (.dit [] [])) (eAT e []) := fun _ _ => rfl
theorem Eg.bits (h : Eg ss a (eI k)) : Eg ss (mUn dBits a) (eI (tBits k)) := Eg.un h (by rw [tBits_eq]; rfl)
theorem zipD_A : ∀ L : List (Int × α), zipD ((L.map Prod.fst).map D.int) (L.map fun p => e p.2) = L.map (eP2 eI e)
  | [] => rfl
  | p :: L => by
    show D.tup [.int p.1, e p.2] :: zipD ((L.map Prod.fst).map D.int) (L.map fun p => e p.2) = _
    rw [zipD_A L]; rfl
theorem Eg.items (h : Eg ss a (eA e L)) : Eg ss (mItemsD a) (L.map (eP2 eI e)) := fun Γ m => by
  unfold mItemsD; rw [h Γ m]
  show some (zipD ((L.map Prod.fst).map D.int) (L.map fun p => e p.2)) = _
  rw [zipD_A]
theorem Eg.keysD (h : Eg ss a (eA e L)) : Eg ss (mKeysD a) ((L.map Prod.fst).map eI) := fun Γ m => by
  unfold mKeysD; rw [h Γ m]; rfl
end
/-! d[k] = v -/
section
variable {α σ τ ρ : Type} {ss : Sp} {b : MS} {N : σ → En → Prop} {L : τ → En → Prop} {e : ρ → D}
theorem tPut_some {κ α : Type} {q : κ → κ → Bool} {K : List (κ × α)} {k : κ} {v : α} {y : List (κ × α)} (h : tPut q K k v = some y) : y = tPutK q K k v ∧ K.length < LIM := by
  unfold tPut at h
  rw [bIf_eq, tLenN_eq] at h
  split at h
  · rename_i c
    cases h
    exact ⟨rfl, Nat.le_of_ble_eq_true c⟩
  · cases h
theorem St.put {i : Nat} {mk me : ME} {e0 : α → D} {K : List (Int × α)} {n : Int} {x : α} {k : List (Int × α) → Option (Res σ τ ρ)} (hi : nthS ss i = some (.own (eA e0 K))) (hn : Eg ss mk (eI n)) (h : Eg ss me (e0 x)) (hk : ∀ y, St (setS ss i (some (.own (eA e0 y)))) b (k y) N L e) : St ss (sSq (sPut i mk me) b) (tBind (tPut iEq K n x) k) N L e := fun r hr Γ mm => by
  obtain ⟨y, h1, h2⟩ := tBind_some hr
  obtain ⟨rfl, c⟩ := tPut_some h1
  obtain ⟨p1, p2⟩ := put_typed (e := e0) iEq_eq n x K
  have e1 : sPut i mk me Γ = some (.nx, Γ.set i (.own (eA e0 (tPutK iEq K n x)))) := by
    unfold sPut ownO
    rw [mm.get hi, h Γ mm, hn Γ mm]
    show (if (K.map Prod.fst).length < LIM then some (D.dic (putKs (K.map Prod.fst) n) (putDs (K.map Prod.fst) (K.map fun p => e0 p.2) n (e0 x))) else none).map _ = _
    rw [List.length_map, if_pos c, ← p1, ← p2]; rfl
  rw [sSq_nx e1]
  exact hk _ r h2 _ mm.set
theorem St.putT {i : Nat} {mk me : ME} {e0 : α → D} {K : List (List Int × α)} {n : List Int} {x : α} {k : List (List Int × α) → Option (Res σ τ ρ)} (hi : nthS ss i = some (.own (eAT e0 K))) (hn : Eg ss mk (eT eI n)) (h : Eg ss me (e0 x)) (hk : ∀ y, St (setS ss i (some (.own (eAT e0 y)))) b (k y) N L e) : St ss (sSq (sPut i mk me) b) (tBind (tPut (lEq iEq) K n x) k) N L e := fun r hr Γ mm => by
  obtain ⟨y, h1, h2⟩ := tBind_some hr
  obtain ⟨rfl, c⟩ := tPut_some h1
  obtain ⟨p1, p2⟩ := put_typed (e := e0) lEqI_eq n x K
  have e1 : sPut i mk me Γ = some (.nx, Γ.set i (.own (eAT e0 (tPutK (lEq iEq) K n x)))) := by
    unfold sPut ownO
    rw [mm.get hi, h Γ mm, hn Γ mm]
    show ((intsOf (n.map D.int)).bind fun k => if (K.map Prod.fst).length < LIM then some (D.dit (putKs (K.map Prod.fst) k) (putDs (K.map Prod.fst) (K.map fun p => e0 p.2) k (e0 x))) else none).map _ = _
    rw [intsOf_map, Option.bind_some, List.length_map, if_pos c, ← p1, ← p2]; rfl
  rw [sSq_nx e1]
  exact hk _ r h2 _ mm.set
end
theorem nnA {α : Type} {e : α → D} : NN (eA e) := ⟨fun _ => rfl⟩
theorem nnAT {α : Type} {e : α → D} : NN (eAT e) := ⟨fun _ => rfl⟩
/-! sorted(rows, key=size_key) -/
def kSz (x : List Int) : List Int := (x.length : Int) :: x
noncomputable def kSzT (x : List Int) : List Int := iLen x :: x
theorem kSzT_eq : kSzT = kSz := by funext x; unfold kSzT kSz; rw [iLen_eq]
noncomputable def tSortSz (xs : List (List Int)) : Option (List (List Int)) := tBind (tLim xs) fun xs => some (tSortK kSzT xs)
theorem size_key_at (x : List Int) : m_size_key [eT eI x] = some (.tup [.int x.length, eT eI x]) := by
  show some (D.tup [D.int ((x.map D.int).length : Nat), eT eI x]) = _
  rw [List.length_map]
theorem keyPy_at (x : List Int) : keyPy m_size_key (eT eI x) = .tuple [.int x.length, .tuple (x.map .int)] := by
  unfold keyPy keyD
  rw [size_key_at]
  show PyData.tuple [.int x.length, (eT eI x).py] = _
  have : ∀ x : List Int, D.pyL (x.map D.int) = x.map PyData.int := fun x => by
    induction x with
    | nil => rfl
    | cons a x ih => show PyData.int a :: D.pyL (x.map D.int) = _; rw [ih]; rfl
  show PyData.tuple [_, .tuple (D.pyL (x.map D.int))] = _
  rw [this]
theorem alike_ints : ∀ x y : List Int, PySem.W.alikeAll (x.map PyData.int) (y.map PyData.int) = true
  | [], _ => rfl
  | _ :: _, [] => rfl
  | a :: x, b :: y => by
    show (PySem.W.alike (.int a) (.int b) && PySem.W.alikeAll (x.map PyData.int) (y.map PyData.int)) = true
    rw [alike_ints x y]; rfl
theorem okKeys_size (xs : List (List Int)) : okKeys m_size_key (xs.map (eT eI)) = true := by
  refine List.all_eq_true.mpr fun d hd => ?_
  obtain ⟨x, _, rfl⟩ := List.mem_map.mp hd
  rw [size_key_at]
  refine Bool.and_eq_true_iff.mpr ⟨?_, List.all_eq_true.mpr fun d' hd' => ?_⟩
  · show ((D.shp 6 (.int (x.length : Int))) && (D.shp 6 (eT eI x) && true)) = true
    rw [shp_up (n := 1) (m := 6) (d := eT eI x) (by decide) ((eqT eqI).shp x)]; rfl
  · obtain ⟨y, _, rfl⟩ := List.mem_map.mp hd'
    rw [keyPy_at]
    have e1 : (D.tup [.int x.length, eT eI x]).py = .tuple [.int x.length, .tuple (x.map .int)] := by
      have := keyPy_at x
      unfold keyPy keyD at this
      rw [size_key_at] at this
      exact this
    rw [e1]
    show (PySem.W.alike (.int (x.length : Int)) (.int (y.length : Int)) && (PySem.W.alikeAll (x.map PyData.int) (y.map PyData.int) && true)) = true
    rw [alike_ints]; rfl
theorem lex_toks : ∀ (x y : List Int) (r : List (Int ⊕ List Nat)), (PyProof.Rows.lexLt PyProof.Rows.itemOrd r r = false) → PyProof.Rows.lexLt PyProof.Rows.itemOrd (PySem.W.keyToksAll (x.map PyData.int) ++ r) (PySem.W.keyToksAll (y.map PyData.int) ++ r) = lexL x y
  | [], [], r, h => by
    show PyProof.Rows.lexLt PyProof.Rows.itemOrd (.inl 0 :: r) (.inl 0 :: r) = false
    rw [PyProof.Rows.lex_cons, h]; rfl
  | [], b :: y, r, _ => by
    show PyProof.Rows.lexLt PyProof.Rows.itemOrd (.inl 0 :: r) (.inl 1 :: _) = true
    rw [PyProof.Rows.lex_cons]; rfl
  | a :: x, [], r, _ => by
    show PyProof.Rows.lexLt PyProof.Rows.itemOrd (.inl 1 :: _) (.inl 0 :: r) = false
    rw [PyProof.Rows.lex_cons]; rfl
  | a :: x, b :: y, r, h => by
    show PyProof.Rows.lexLt PyProof.Rows.itemOrd (.inl 1 :: .inl a :: (PySem.W.keyToksAll (x.map PyData.int) ++ r)) (.inl 1 :: .inl b :: (PySem.W.keyToksAll (y.map PyData.int) ++ r)) = _
    rw [PyProof.Rows.lex_cons, PyProof.Rows.lex_cons, lex_toks x y r h]
    show (decide ((1 : Int) < 1) || (!decide ((1 : Int) < 1) && (decide (a < b) || (!decide (b < a) && lexL x y)))) = _
    conv => rhs; unfold lexL
    by_cases e : a = b
    · subst e; simp
    · by_cases l : a < b
      · simp [e, l]
      · have : b < a := by omega
        simp [e, l, this]
theorem lex_key (x y : List Int) : PyProof.Rows.lexLt PyProof.Rows.itemOrd (PySem.W.keyToks (keyPy m_size_key (eT eI x))) (PySem.W.keyToks (keyPy m_size_key (eT eI y))) = lexL (kSz x) (kSz y) := by
  rw [keyPy_at, keyPy_at]
  show PyProof.Rows.lexLt PyProof.Rows.itemOrd (.inl 1 :: .inl (x.length : Int) :: .inl 1 :: (PySem.W.keyToksAll (x.map PyData.int) ++ [.inl 0])) (.inl 1 :: .inl (y.length : Int) :: .inl 1 :: (PySem.W.keyToksAll (y.map PyData.int) ++ [.inl 0])) = _
  rw [PyProof.Rows.lex_cons, PyProof.Rows.lex_cons, PyProof.Rows.lex_cons, lex_toks x y _ (by rfl)]
  show (decide ((1 : Int) < 1) || (!decide ((1 : Int) < 1) && (decide ((x.length : Int) < y.length) || (!decide ((y.length : Int) < x.length) && (decide ((1 : Int) < 1) || (!decide ((1 : Int) < 1) && lexL x y)))))) = _
  unfold kSz
  conv => rhs; unfold lexL
  by_cases e : (x.length : Int) = y.length
  · rw [e]; simp
  · by_cases l : (x.length : Int) < y.length
    · simp [e, l]
    · have : (y.length : Int) < x.length := by omega
      simp [e, l, this]
theorem dataLe_key (x y : List Int) : PySem.W.dataLe false (keyPy m_size_key) (eT eI x) (eT eI y) = !lexL (kSz y) (kSz x) := by
  rw [← lex_key]; rfl
theorem kSz_inj {x y : List Int} (h : kSz x = kSz y) : x = y := by unfold kSz at h; exact (List.cons.inj h).2
theorem sort_size (xs : List (List Int)) : (xs.map (eT eI)).mergeSort (PySem.W.dataLe false (keyPy m_size_key)) = (tSortK kSzT xs).map (eT eI) := by
  rw [kSzT_eq]
  have tot := PySem.W.sortLe_total (PyProof.Rows.listOrd PyProof.Rows.itemOrd) false (fun b => PySem.W.keyToks (keyPy m_size_key b))
  have h1 := List.pairwise_mergeSort (le := PySem.W.dataLe false (keyPy m_size_key)) tot.trans (fun a b => Bool.or_eq_true_iff.mpr (tot.total a b)) (xs.map (eT eI))
  have h2 := List.mergeSort_perm (xs.map (eT eI)) (PySem.W.dataLe false (keyPy m_size_key))
  obtain ⟨ys, hy⟩ : ∃ ys : List (List Int), (xs.map (eT eI)).mergeSort (PySem.W.dataLe false (keyPy m_size_key)) = ys.map (eT eI) := by
    have : ∀ (ds : List D), (∀ d ∈ ds, ∃ x, d = eT eI x) → ∃ ys : List (List Int), ds = ys.map (eT eI) := by
      intro ds
      induction ds with
      | nil => intro _; exact ⟨[], rfl⟩
      | cons d ds ih =>
        intro h
        obtain ⟨x, rfl⟩ := h d List.mem_cons_self
        obtain ⟨ys, rfl⟩ := ih fun d hd => h d (List.mem_cons_of_mem _ hd)
        exact ⟨x :: ys, rfl⟩
    refine this _ fun d hd => ?_
    obtain ⟨x, _, rfl⟩ := List.mem_map.mp ((h2.mem_iff).mp hd)
    exact ⟨x, rfl⟩
  have inj : ∀ a b : List Int, eT eI a = eT eI b → a = b := fun a b h => by
    have h : a.map D.int = b.map D.int := by unfold eT at h; exact D.tup.inj h
    exact map_inj (fun _ _ z => D.int.inj z) h
  rw [hy] at h1 h2 ⊢
  congr 1
  have hp : ys.Perm xs := by
    have h3 := h2.map fun d : D => match d with | .tup ds => (intsOf ds).getD [] | _ => []
    have dec : ∀ a : List (List Int), (a.map (eT eI)).map (fun d : D => match d with | .tup ds => (intsOf ds).getD [] | _ => []) = a := fun a => by
      rw [List.map_map]
      conv => rhs; rw [← List.map_id a]
      refine List.map_congr_left fun x _ => ?_
      show (intsOf (x.map D.int)).getD [] = x
      rw [intsOf_map]; rfl
    rw [dec, dec] at h3
    exact h3
  have hs : (ys.map kSz).Pairwise leL := by
    refine List.pairwise_map.mpr ?_
    refine (List.pairwise_map.mp h1).imp fun {x y} h => ?_
    rw [dataLe_key] at h
    unfold leL
    simpa using h
  have e1 := sortL_eq (hp.map kSz) hs
  rw [← tSortK_map] at e1
  exact map_inj (fun _ _ => kSz_inj) e1
theorem Eo.sortSz {ss : Sp} {a : ME} {xs : List (List Int)} (h : Eg ss a (eL (eT eI) xs)) : Eo ss (mCall (dSortKey m_size_key) (mCons a mNil)) (eL (eT eI)) (tSortSz xs) := Eo.call (fun r hr => by
  obtain ⟨y, h1, h2⟩ := tBind_some hr
  obtain ⟨rfl, c⟩ := tLim_some h1
  cases h2
  show (if okKeys m_size_key (y.map (eT eI)) && decide ((y.map (eT eI)).length ≤ LIM) then some (D.lst ((y.map (eT eI)).mergeSort (PySem.W.dataLe false (keyPy m_size_key)))) else none) = _
  rw [okKeys_size, List.length_map, decide_eq_true c, sort_size]; rfl) (.ac h .a0)
/-! sorted(rows), rows of three ints or more -/
noncomputable def tAll3 (xs : List (List Int)) : Bool := List.rec (motive := fun _ => Bool) true (fun x _ ih => bAnd (Nat.ble 3 (tLenN x)) ih) xs
noncomputable def tSortT (xs : List (List Int)) : Option (List (List Int)) := bIf (tAll3 xs) (some (tSortK (fun x => x) xs)) none
theorem tAll3_mem : ∀ {xs : List (List Int)}, tAll3 xs = true → ∀ x ∈ xs, 3 ≤ x.length
  | [], _, _, h => nomatch h
  | y :: xs, e, x, h => by
    have e : bAnd (Nat.ble 3 (tLenN y)) (tAll3 xs) = true := e
    rw [bAnd_eq, Bool.and_eq_true, tLenN_eq] at e
    rcases List.mem_cons.mp h with rfl | h
    · exact Nat.le_of_ble_eq_true e.1
    · exact tAll3_mem e.2 x h
theorem Eo.sortAT {ss : Sp} {a : ME} {xs : List (List Int)} (ha : Eg ss a (eL (eT eI) xs)) : Eo ss (mCall dSortA (mCons a mNil)) (eL (eT eI)) (tSortT xs) := Eo.call (fun r hr => by
  obtain ⟨c, hr⟩ := bIf_some hr
  cases hr
  have c3 := tAll3_mem c
  have main : dSortT [.lst (xs.map (eT eI))] = some (eL (eT eI) (tSortK (fun x => x) xs)) := by
    unfold dSortT eL
    simp only
    have e1 : ∀ ys : List (List Int), ys.map (eT eI) = ys.map tupI := fun ys => List.map_congr_left fun x _ => rfl
    rw [e1, tupsOf_map, Option.bind_some, if_pos, e1]
    · have := tSortK_map (fun x : List Int => x) xs
      rw [show (fun x : List Int => x) = id from rfl, List.map_id, List.map_id] at this
      rw [show (fun x : List Int => x) = id from rfl, this]
    · exact List.all_eq_true.mpr fun p hp => by
        have := c3 p hp
        cases p with
        | nil => simp at this
        | cons _ _ => rfl
  unfold dSortA
  cases xs with
  | nil => rfl
  | cons x xs =>
    have no : dSorted [eL (eT eI) (x :: xs)] = none := by
      show (match intsOf (eT eI x :: xs.map (eT eI)) with | some ns => some (D.lst ((SK.sortI ns).map .int)) | none => (pairsOf (eT eI x :: xs.map (eT eI))).map fun ps => .lst ((SK.sortP ps).map pairD)) = none
      have i1 : intsOf (eT eI x :: xs.map (eT eI)) = none := rfl
      have hx := c3 x List.mem_cons_self
      have i2 : pairsOf (eT eI x :: xs.map (eT eI)) = none := by
        show (pairOf (eT eI x)).bind _ = none
        match x, hx with
        | a :: b :: c :: l, _ => rfl
      rw [i1, i2]; rfl
    rw [no]; exact main) (.ac ha .a0)
theorem Eo.sortB {α : Type} {ss : Sp} {a : ME} {e : α → D} {t : Option α} (h : Eo ss (mCall dSortA (mCons a mNil)) e t) : Eo ss (mCall dSortB (mCons a mNil)) e t := fun r hr => Eg.sortB (h r hr)
/-! range(a, b, c) -/
noncomputable def tStepN (c : Int) (n : Nat) : Int → List Int := Nat.rec (motive := fun _ => Int → List Int) (fun _ => []) (fun _ ih a => a :: ih (iAdd a c)) n
theorem tStepN_eq (c : Int) : ∀ (n : Nat) (a : Int), (tStepN c n a).map D.int = stepD a c n
  | 0, a => rfl
  | n + 1, a => by
    show D.int a :: (tStepN c n (iAdd a c)).map D.int = _
    rw [tStepN_eq c n, iAdd_eq]
    unfold stepD
    rw [List.range_succ_eq_map, List.map_cons, List.map_map]
    congr 1
    · congr 1; simp
    · apply List.map_congr_left
      intro i _
      show D.int _ = D.int _
      congr 1
      rw [show ((Nat.succ i : Nat) : Int) = (i : Int) + 1 by omega, Int.add_mul, Int.one_mul]
      omega
noncomputable def tRng3 (a b c : Int) : Option (List Int) := bIf (okC a b c) (some (tStepN c (rngN a b c) a)) none
theorem Eo.rng3 {ss : Sp} {ma mb mc : ME} {i j k : Int} (h : Eg ss ma (eI i)) (h2 : Eg ss mb (eI j)) (h3 : Eg ss mc (eI k)) : Eo ss (mRng3 ma mb mc) (List.map eI) (tRng3 i j k) := fun z hz Γ m => by
  obtain ⟨c, hz⟩ := bIf_some hz
  cases hz
  unfold mRng3; rw [h Γ m, h2 Γ m, h3 Γ m]
  show (if okC i j k then some (stepD i k (rngN i j k)) else none) = _
  rw [if_pos c, ← tStepN_eq]; rfl
end SK

set_option Elab.async false
set_option linter.all false
set_option maxRecDepth 100000
set_option maxHeartbeats 4000000
set_option autoImplicit false
namespace SK
open PySem PySem.Spec PyProof.Rows L2

/-! ### sorted(set(xs)), xs tuples of ints of one length -/
def insR (x : List Int) : List (List Int) → List (List Int)
  | [] => [x]
  | y :: ys => if x = y then y :: ys else if lexL x y = true then x :: y :: ys else y :: insR x ys
def setR : List (List Int) → List (List Int)
  | [] => []
  | x :: xs => insR x (setR xs)
theorem insR_mem (x p : List Int) : ∀ ys, p ∈ insR x ys ↔ p = x ∨ p ∈ ys
  | [] => by simp [insR]
  | y :: ys => by
    unfold insR
    by_cases e : x = y
    · subst e; rw [if_pos rfl]; simp
    · rw [if_neg e]
      split
      · simp
      · rw [List.mem_cons, List.mem_cons, insR_mem x p ys]
        constructor
        · rintro (h | h | h)
          · exact .inr (.inl h)
          · exact .inl h
          · exact .inr (.inr h)
        · rintro (h | h | h)
          · exact .inr (.inl h)
          · exact .inl h
          · exact .inr (.inr h)
theorem setR_mem (p : List Int) : ∀ xs, p ∈ setR xs ↔ p ∈ xs
  | [] => Iff.rfl
  | x :: xs => by
    show p ∈ insR x (setR xs) ↔ _
    rw [insR_mem, setR_mem p xs, List.mem_cons]
/-- rows of d ints below B -/
structure RowOk (d : Nat) (x : List Int) : Prop where
  len : x.length = d
  bd : TS.Bd 1000 x
theorem lex_code : ∀ {d : Nat} {x y : List Int}, RowOk d x → RowOk d y → (lexL x y = true ↔ TS.code 1000 x < TS.code 1000 y)
  | d, [], [], _, _ => by simp [lexL, TS.code]
  | d, [], _ :: _, hx, hy => by have := hx.len.trans hy.len.symm; simp at this
  | d, _ :: _, [], hx, hy => by have := hx.len.trans hy.len.symm; simp at this
  | d, a :: x, b :: y, hx, hy => by
    have hl : x.length = y.length := by have := hx.len.trans hy.len.symm; simpa using this
    unfold lexL
    by_cases e : a = b
    · subst e
      rw [if_pos rfl, TS.code_same hl]
      exact lex_code ⟨hl, hx.bd.tail⟩ ⟨rfl, hy.bd.tail⟩
    · rw [if_neg e, decide_eq_true_eq]
      refine ⟨fun h => TS.code_lt hl hx.bd.tail hy.bd.tail h, fun h => ?_⟩
      rcases Int.lt_trichotomy a b with z | z | z
      · exact z
      · exact absurd z e
      · have := TS.code_lt hl.symm hy.bd.tail hx.bd.tail z
        omega
theorem code_inj {d : Nat} {x y : List Int} (hx : RowOk d x) (hy : RowOk d y) (h : TS.code 1000 x = TS.code 1000 y) : x = y := by
  by_cases e : x = y
  · exact e
  · by_cases z : lexL x y = true
    · have := (lex_code hx hy).mp z; omega
    · by_cases z2 : lexL y x = true
      · have := (lex_code hy hx).mp z2; omega
      · exact lexL_tot x y (Bool.eq_false_iff.mpr z) (Bool.eq_false_iff.mpr z2)
theorem insR_up {d : Nat} {x : List Int} (hx : RowOk d x) : ∀ {ys : List (List Int)}, (∀ y ∈ ys, RowOk d y) → (ys.map (TS.code 1000)).Pairwise (· < ·) → ((insR x ys).map (TS.code 1000)).Pairwise (· < ·)
  | [], _, _ => by simp [insR]
  | y :: ys, ok, h => by
    have hy := ok y List.mem_cons_self
    rw [List.map_cons, List.pairwise_cons] at h
    obtain ⟨h1, h2⟩ := h
    unfold insR
    by_cases e : x = y
    · rw [if_pos e, List.map_cons, List.pairwise_cons]; exact ⟨h1, h2⟩
    · rw [if_neg e]
      split
      · rename_i l
        have l := (lex_code hx hy).mp l
        rw [List.map_cons, List.map_cons, List.pairwise_cons, List.pairwise_cons]
        refine ⟨fun c hc => ?_, h1, h2⟩
        rcases List.mem_cons.mp hc with rfl | hc
        · exact l
        · exact Int.lt_trans l (h1 c hc)
      · rename_i l
        have l2 : TS.code 1000 y < TS.code 1000 x := by
          by_cases z2 : lexL y x = true
          · exact (lex_code hy hx).mp z2
          · exact absurd (lexL_tot x y (Bool.eq_false_iff.mpr l) (Bool.eq_false_iff.mpr z2)) e
        rw [List.map_cons, List.pairwise_cons]
        refine ⟨fun c hc => ?_, insR_up hx (fun z hz => ok z (List.mem_cons_of_mem _ hz)) h2⟩
        obtain ⟨p, hp, rfl⟩ := List.mem_map.mp hc
        rcases (insR_mem x p ys).mp hp with rfl | hp
        · exact l2
        · exact h1 _ (List.mem_map_of_mem hp)
theorem setR_up {d : Nat} : ∀ {xs : List (List Int)}, (∀ y ∈ xs, RowOk d y) → ((setR xs).map (TS.code 1000)).Pairwise (· < ·)
  | [], _ => .nil
  | x :: xs, ok => insR_up (ok x List.mem_cons_self) (fun y hy => ok y (List.mem_cons_of_mem _ ((setR_mem y xs).mp hy))) (setR_up fun y hy => ok y (List.mem_cons_of_mem _ hy))
theorem rows_eq {d : Nat} : ∀ {xs ys : List (List Int)}, (∀ x ∈ xs, RowOk d x) → (∀ y ∈ ys, RowOk d y) → xs.map (TS.code 1000) = ys.map (TS.code 1000) → xs = ys
  | [], [], _, _, _ => rfl
  | [], _ :: _, _, _, h => nomatch h
  | _ :: _, [], _, _, h => nomatch h
  | x :: xs, y :: ys, hx, hy, h => by
    rw [List.map_cons, List.map_cons, List.cons.injEq] at h
    rw [code_inj (hx x List.mem_cons_self) (hy y List.mem_cons_self) h.1, rows_eq (fun z hz => hx z (List.mem_cons_of_mem _ hz)) (fun z hz => hy z (List.mem_cons_of_mem _ hz)) h.2]
def okRow (d : Nat) (x : List Int) : Bool := decide (x.length = d) && x.all fun m => decide (0 ≤ m) && decide (m < 1000)
theorem okRow_ok {d : Nat} {x : List Int} (h : okRow d x = true) : RowOk d x := by
  obtain ⟨h1, h2⟩ := Bool.and_eq_true_iff.mp h
  refine ⟨of_decide_eq_true h1, fun m hm => ?_⟩
  obtain ⟨a, b⟩ := Bool.and_eq_true_iff.mp (List.all_eq_true.mp h2 m hm)
  exact ⟨of_decide_eq_true a, of_decide_eq_true b⟩
def hdLen : List (List Int) → Nat
  | [] => 1
  | x :: _ => x.length
def dSetT : List D → Option D
  | [.lst xs] => (tupsOf xs).bind fun rows => if decide (1 ≤ hdLen rows) && rows.all (okRow (hdLen rows)) && decide (rows.length < 64) then some (.lst ((setR rows).map tupI)) else none
  | _ => none
theorem keys_of {K : PySem.W.Frag} {F : Hp} : ∀ {vs : List V} {xs : List D} {rows : List (List Int)}, RepL K F vs xs → tupsOf xs = some rows → ∃ ks : List (Addr × List Int), vs = ks.map (fun p => V.ref p.1) ∧ rows = ks.map (·.2) ∧ ∀ p ∈ ks, F p.1 = some (.tup (p.2.map V.int))
  | _, _, _, .nil, e => by cases e; exact ⟨[], rfl, rfl, fun p h => nomatch h⟩
  | _, _, _, .cons (d := d) r rr, e => by
    obtain ⟨ns, ns1, e1, e2, rfl⟩ : ∃ ns rows', tupOf d = some ns ∧ tupsOf _ = some rows' ∧ _ = ns :: rows' := by
      have e : ((tupOf d).bind fun ns => (tupsOf _).map fun r => ns :: r) = some _ := e
      obtain ⟨ns, h1, h2⟩ := Option.bind_eq_some_iff.mp e
      obtain ⟨r', h3, h4⟩ := Option.map_eq_some_iff.mp h2
      exact ⟨ns, r', h1, h3, h4.symm⟩
    obtain ⟨ks, k1, k2, k3⟩ := keys_of rr e2
    obtain rfl := tupOf_some e1
    obtain ⟨a, ws, rfl, h1, h2⟩ := r.tupI
    have := ints_rep (intsOf_map ns) h2
    subst this
    refine ⟨(a, ns) :: ks, by rw [k1]; rfl, by rw [k2]; rfl, fun p hp => ?_⟩
    rcases List.mem_cons.mp hp with rfl | hp
    · exact h1
    · exact k3 p hp
theorem rep_rows {K : PySem.W.Frag} {F : Hp} : ∀ {ks : List (Addr × List Int)}, (∀ p ∈ ks, F p.1 = some (.tup (p.2.map V.int))) → RepL K F (ks.map fun p => V.ref p.1) ((ks.map (·.2)).map tupI)
  | [], _ => .nil
  | p :: ks, h => .cons (.ob (h p List.mem_cons_self) (.tup (rep_ints p.2))) (rep_rows fun q hq => h q (List.mem_cons_of_mem _ hq))
section
variable {X : Cx}
theorem r_sortSetT {e : Expr} {me : ME} {p p2 q pos : Pos} (hc : X.calm = true) (hu : X.A.units + 64 < cLine) (hg : Gl X "sorted") (hm : X.mg "sorted" = none) (hg2 : Gl X "set") (hm2 : X.mg "set" = none) (ha : PE X e (rdB X.K me))
    (hs : starEach [e] X.env = (false, eval e X.env) :: starEach [] X.env := by rfl) : PE X (.Call (.Name "sorted" p) [.Call (.Name "set" p2) [e] [] q] [] pos) (rdN X.K (mCall dSetT (mCons me mNil))) :=
  PE.wk (pe_callB (cr_sortedT hc) hg hm (by decide +kernel) (pa_cons (pe_callTy (cr_setOfT hc hu) hg2 hm2 (by decide +kernel) (r_bcons ha r_bnil hs) (he := hs)) pa_nil)) fun σ H Q ⟨H0, F, Γ, d, R, z, qq⟩ => by
    obtain ⟨ds, ed, z⟩ := Option.bind_eq_some_iff.mp z
    refine ⟨H0, F, Γ, ds, R, ed, fun vs H1 F1 E1 r1 => ?_⟩
    unfold dSetT at z
    split at z
    · rename_i xs
      obtain ⟨rows, er, z⟩ := Option.bind_eq_some_iff.mp z
      obtain ⟨c, rfl⟩ := if_some z
      simp only [Bool.and_eq_true, decide_eq_true_eq, List.all_eq_true] at c
      obtain ⟨⟨c1, c2⟩, c3⟩ := c
      have ok : ∀ x ∈ rows, RowOk (hdLen rows) x := fun x hx => okRow_ok (c2 x hx)
      obtain ⟨v, rfl, rr⟩ := bl1 r1
      obtain ⟨a, ws, rfl, h1, r2⟩ := rr.lst E1.fh
      obtain ⟨ks, rfl, rfl, hk⟩ := keys_of r2 er
      rw [List.length_map] at c3
      refine ⟨a, ks, rfl, .of h1, fun p hp => .of (E1.fh _ _ (hk p hp)), c3, fun b L nb hL hL2 => ?_⟩
      have E2 : Ext F1 H1 F1 (upd H1 b (SetTO X.prog X.w b L)) := Ext.own E1.fh nb
      refine ⟨b, L, hdLen (ks.map (·.2)), 1000, rfl, upd_same, fun p hp => .of (E2.fh _ _ (hk p (hL p hp))), c1, fun p hp => ?_, fun L' t pm nd _ pw nt => ?_⟩
      · have := ok p.2 (List.mem_map_of_mem (hL p hp))
        exact ⟨this.len, this.bd⟩
      · have memL : ∀ p ∈ L', p ∈ ks := fun p hp => hL p (pm.mem_iff.mp hp)
        have okL : ∀ x ∈ L'.map (·.2), RowOk (hdLen (ks.map (·.2))) x := fun x hx => by
          obtain ⟨p, hp, rfl⟩ := List.mem_map.mp hx
          exact ok p.2 (List.mem_map_of_mem (memL p hp))
        have eL : L'.map (·.2) = setR (ks.map (·.2)) := by
          refine rows_eq okL (fun y hy => ok y ((setR_mem y _).mp hy)) (up_eq ?_ (setR_up ok) fun k => ?_)
          · have h2 : (L'.map (·.2)).Pairwise (fun x y => TS.code 1000 x ≤ TS.code 1000 y) := List.pairwise_map.mpr pw
            refine List.pairwise_map.mpr ((h2.and nd).imp_of_mem fun {x y} hx hy h => ?_)
            rcases Int.lt_or_eq_of_le h.1 with z | z
            · exact z
            · exact absurd (code_inj (okL x hx) (okL y hy) z) h.2
          · constructor
            · intro hk'
              obtain ⟨x, hx, rfl⟩ := List.mem_map.mp hk'
              obtain ⟨p, hp, rfl⟩ := List.mem_map.mp hx
              exact List.mem_map_of_mem ((setR_mem _ _).mpr (List.mem_map_of_mem (memL p hp)))
            · intro hk'
              obtain ⟨x, hx, rfl⟩ := List.mem_map.mp hk'
              obtain ⟨p, hp, rfl⟩ := List.mem_map.mp ((setR_mem _ _).mp hx)
              obtain ⟨p', hp', e'⟩ := List.mem_map.mp (hL2 p hp)
              rw [← e']
              exact List.mem_map_of_mem (List.mem_map_of_mem (pm.mem_iff.mpr hp'))
        rw [← eL] at qq
        have ntF : F1 t = none := E2.fh.free nt
        exact qq t _ _ F1 ((E1.trans E2).trans (Ext.own E2.fh nt)) ((E1.trans E2).h.free nt) ntF upd_same rfl (.lst (rep_rows fun p hp => hk p (memL p hp)))
    · cases z
end
/-! ### min of pairs (int, tuple of ints) -/
def ptD (p : Int × List Int) : D := .tup [.int p.1, .tup (p.2.map .int)]
def ptOf : D → Option (Int × List Int)
  | .tup [.int a, .tup xs] => (intsOf xs).map fun ns => (a, ns)
  | _ => none
def ptsOf : List D → Option (List (Int × List Int))
  | [] => some []
  | d :: r => (ptOf d).bind fun p => (ptsOf r).map (p :: ·)
theorem ptOf_some {d : D} {p : Int × List Int} (h : ptOf d = some p) : d = ptD p := by
  unfold ptOf at h
  split at h
  · obtain ⟨ns, e, rfl⟩ := Option.map_eq_some_iff.mp h
    rw [intsOf_some e]; rfl
  · cases h
theorem ptsOf_some : ∀ {ds : List D} {ps : List (Int × List Int)}, ptsOf ds = some ps → ds = ps.map ptD
  | [], _, h => by cases h; rfl
  | d :: r, _, h => by
    obtain ⟨p, e, h⟩ := Option.bind_eq_some_iff.mp h
    obtain ⟨qs, e2, rfl⟩ := Option.map_eq_some_iff.mp h
    rw [ptOf_some e, ptsOf_some e2]; rfl
theorem ptsOf_map : ∀ ps : List (Int × List Int), ptsOf (ps.map ptD) = some ps
  | [] => rfl
  | p :: ps => by
    show ((intsOf (p.2.map .int)).map fun ns => (p.1, ns)).bind (fun p => (ptsOf (ps.map ptD)).map (p :: ·)) = _
    rw [intsOf_map, ptsOf_map ps]; rfl
def ltPT (p q : Int × List Int) : Bool := lexL (p.1 :: p.2) (q.1 :: q.2)
def minPT (x : Int × List Int) (xs : List (Int × List Int)) : Int × List Int := xs.foldl (fun a y => if ltPT y a = true then y else a) x
def ptPy (p : Int × List Int) : PyData := .tuple [.int p.1, .tuple (p.2.map .int)]
theorem pyL_ints : ∀ x : List Int, D.pyL (x.map D.int) = x.map PyData.int
  | [] => rfl
  | a :: x => by show PyData.int a :: D.pyL (x.map D.int) = _; rw [pyL_ints x]; rfl
theorem ptD_py (p : Int × List Int) : (ptD p).py = ptPy p := by
  show PyData.tuple [.int p.1, .tuple (D.pyL (p.2.map D.int))] = _
  rw [pyL_ints]; rfl
theorem pyL_pts : ∀ ps : List (Int × List Int), D.pyL (ps.map ptD) = ps.map ptPy
  | [] => rfl
  | p :: ps => by show (ptD p).py :: D.pyL (ps.map ptD) = _; rw [ptD_py, pyL_pts ps]; rfl
theorem map_int_inj : ∀ {x y : List Int}, x.map PyData.int = y.map PyData.int → x = y
  | [], [], _ => rfl
  | [], _ :: _, h => nomatch h
  | _ :: _, [], h => nomatch h
  | a :: x, b :: y, h => by
    rw [List.map_cons, List.map_cons, List.cons.injEq] at h
    rw [PyData.int.inj h.1, map_int_inj h.2]
theorem ptPy_inj {p q : Int × List Int} (h : ptPy p = ptPy q) : p = q := by
  unfold ptPy at h
  have h := PyData.tuple.inj h
  simp only [List.cons.injEq, and_true] at h
  exact Prod.ext (PyData.int.inj h.1) (map_int_inj (PyData.tuple.inj h.2))
theorem alikeL_ints : ∀ x y : List Int, PySem.W.alikeAll (x.map PyData.int) (y.map PyData.int) = true
  | [], _ => rfl
  | _ :: _, [] => rfl
  | a :: x, b :: y => by
    show (PySem.W.alike (.int a) (.int b) && PySem.W.alikeAll (x.map PyData.int) (y.map PyData.int)) = true
    rw [alikeL_ints x y]; rfl
theorem alike_pt (p q : Int × List Int) : PySem.W.alike (ptPy p) (ptPy q) = true := by
  show (PySem.W.alike (.int p.1) (.int q.1) && (PySem.W.alikeAll (p.2.map PyData.int) (q.2.map PyData.int) && true)) = true
  rw [alikeL_ints]; rfl
theorem lexToks : ∀ (x y : List Int) (r : List (Int ⊕ List Nat)), (PyProof.Rows.lexLt PyProof.Rows.itemOrd r r = false) → PyProof.Rows.lexLt PyProof.Rows.itemOrd (PySem.W.keyToksAll (x.map PyData.int) ++ r) (PySem.W.keyToksAll (y.map PyData.int) ++ r) = lexL x y
  | [], [], r, h => by
    show PyProof.Rows.lexLt PyProof.Rows.itemOrd (.inl 0 :: r) (.inl 0 :: r) = false
    rw [PyProof.Rows.lex_cons, h]; rfl
  | [], b :: y, r, _ => by
    show PyProof.Rows.lexLt PyProof.Rows.itemOrd (.inl 0 :: r) (.inl 1 :: _) = true
    rw [PyProof.Rows.lex_cons]; rfl
  | a :: x, [], r, _ => by
    show PyProof.Rows.lexLt PyProof.Rows.itemOrd (.inl 1 :: _) (.inl 0 :: r) = false
    rw [PyProof.Rows.lex_cons]; rfl
  | a :: x, b :: y, r, h => by
    show PyProof.Rows.lexLt PyProof.Rows.itemOrd (.inl 1 :: .inl a :: (PySem.W.keyToksAll (x.map PyData.int) ++ r)) (.inl 1 :: .inl b :: (PySem.W.keyToksAll (y.map PyData.int) ++ r)) = _
    rw [PyProof.Rows.lex_cons, PyProof.Rows.lex_cons, lexToks x y r h]
    show (decide ((1 : Int) < 1) || (!decide ((1 : Int) < 1) && (decide (a < b) || (!decide (b < a) && lexL x y)))) = _
    conv => rhs; unfold lexL
    by_cases e : a = b
    · subst e; simp
    · by_cases l : a < b
      · simp [e, l]
      · have : b < a := by omega
        simp [e, l, this]
theorem dataLt_pt (p q : Int × List Int) : PySem.W.dataLt (ptPy p) (ptPy q) = ltPT p q := by
  show PyProof.Rows.lexLt PyProof.Rows.itemOrd (.inl 1 :: .inl p.1 :: .inl 1 :: (PySem.W.keyToksAll (p.2.map PyData.int) ++ [.inl 0])) (.inl 1 :: .inl q.1 :: .inl 1 :: (PySem.W.keyToksAll (q.2.map PyData.int) ++ [.inl 0])) = _
  rw [PyProof.Rows.lex_cons, PyProof.Rows.lex_cons, PyProof.Rows.lex_cons, lexToks p.2 q.2 _ (by rfl)]
  show (decide ((1 : Int) < 1) || (!decide ((1 : Int) < 1) && (decide (p.1 < q.1) || (!decide (q.1 < p.1) && (decide ((1 : Int) < 1) || (!decide ((1 : Int) < 1) && lexL p.2 q.2)))))) = _
  unfold ltPT
  conv => rhs; unfold lexL
  by_cases e : p.1 = q.1
  · rw [e]; simp
  · by_cases l : p.1 < q.1
    · simp [e, l]
    · have : q.1 < p.1 := by omega
      simp [e, l, this]
theorem minD_pt : ∀ (xs : List (Int × List Int)) (x : Int × List Int), PySem.W.minD (ptPy x) (xs.map ptPy) = ptPy (minPT x xs)
  | [], _ => rfl
  | y :: xs, x => by
    show PySem.W.minD (if PySem.W.dataLt (ptPy y) (ptPy x) = true then ptPy y else ptPy x) (xs.map ptPy) = ptPy (minPT (if ltPT y x = true then y else x) xs)
    rw [dataLt_pt, ← minD_pt xs]
    split <;> rfl
theorem depth_pts : ∀ ps : List (Int × List Int), PyData.depthAll (ps.map ptPy) ≤ 2
  | [] => Nat.zero_le _
  | p :: ps => by
    have hd : ∀ ns : List Int, PyData.depthAll (ns.map PyData.int) = 0 := fun ns => by
      induction ns with
      | nil => rfl
      | cons n ns ih => show max (PyData.depth (.int n)) (PyData.depthAll (ns.map PyData.int)) = 0; rw [ih]; rfl
    show max (ptPy p).depth (PyData.depthAll (ps.map ptPy)) ≤ 2
    refine Nat.max_le.mpr ⟨?_, depth_pts ps⟩
    show (max (PyData.depth (.int p.1)) (max (PyData.depthAll (p.2.map PyData.int) + 1) 0)) + 1 ≤ 2
    rw [hd]; exact Nat.le_refl 2
def rMinPT (K : PySem.W.Frag) : List V → Hp → VK → Prop := fun vs H Q => ∃ (a : Addr) (xs : List V) (F : Hp) (p : Int × List Int) (ps : List (Int × List Int)), vs = [.ref a] ∧ SqL K H a xs ∧ Same F H ∧ RepL K F xs ((p :: ps).map ptD) ∧ ∀ v, Rep K F v (ptD (minPT p ps)) → Q v H
theorem shp_pts (ps : List (Int × List Int)) : (ps.map ptD).all (D.shp 2) = true := List.all_eq_true.mpr fun d hd => by
  obtain ⟨p, _, rfl⟩ := List.mem_map.mp hd
  show (D.shp 1 (.int p.1) && (D.shp 1 (.tup (p.2.map .int)) && true)) = true
  have : D.shp 1 (.tup (p.2.map .int)) = true := List.all_eq_true.mpr fun d hd => by obtain ⟨n, _, rfl⟩ := List.mem_map.mp hd; rfl
  rw [this]; rfl
theorem cr_minPT {X : Cx} (hc : X.calm = true) (hu : X.A.units + 64 < cLine) : CallR X (.builtin "min") (rMinPT X.K) := by
  intro pins s σ H vs us Q I r h
  obtain ⟨a, xs, F, p, ps, rfl, hs, sm, rep, q⟩ := h
  rw [Vals.ref1 r]
  obtain ⟨its, rv, hl, hz⟩ := I.list hs
  obtain ⟨as, ra⟩ := Dp.readsAll I _ _ _ (dpl_of sm rep (shp_pts (p :: ps))) rv
  rw [pyL_pts] at ra
  have al  : PySem.W.AlikeAll ((p :: ps).map ptPy) := ⟨fun x hx y hy => by
    obtain ⟨x', _, rfl⟩ := List.mem_map.mp hx
    obtain ⟨y', _, rfl⟩ := List.mem_map.mp hy
    exact alike_pt x' y', fun x hx => by
    obtain ⟨x', _, rfl⟩ := List.mem_map.mp hx
    intro z; cases z⟩
  refine PySem.W.min_list_data (x := ptPy p) (xs := ps.map ptPy) (I.ok.hd hc) hl.isList (by simpa using ra) al (by have := depth_pts (p :: ps); show X.A.units + 1 + PyData.depthAll ((p :: ps).map ptPy) < _; omega) fun i v h' tk bs hv hr k => ?_
  rw [minD_pt] at hr
  have hv' : its[i]? = some v := by simpa using hv
  obtain ⟨bs', r2, hi, _, _⟩ := PySem.W.readsAll_at ra i v hv'
  have hi' : i < (p :: ps).length := by simpa using hi
  have e1 : ((p :: ps).map ptPy).getD i .none = ptPy (p :: ps)[i] := by
    rw [List.getD_eq_getElem?_getD, List.getElem?_map, List.getElem?_eq_getElem hi']; rfl
  rw [e1] at r2
  have e2 := PySem.W.alike_unique _ _ _ _ _ (alike_pt (minPT p ps) (p :: ps)[i]) hr (PySem.W.reads_keeps k r2)
  have e3 := ptPy_inj e2
  obtain ⟨x, hx, rx⟩ : ∃ x, xs[i]? = some x ∧ Rep X.K F x (ptD (p :: ps)[i]) := by
    obtain ⟨x, h1, h2⟩ := rep.get (i := i) (d := ptD (p :: ps)[i]) (by rw [List.getElem?_map, List.getElem?_eq_getElem hi']; rfl)
    exact ⟨x, h1, h2⟩
  obtain ⟨u, hu', ru⟩ := rv.get hx
  rw [hv'] at hu'
  cases hu'
  rw [← e3] at rx
  exact ⟨x, H, I.kept (t' := tk) k, ru, q x rx⟩
def dMinPT : List D → Option D
  | [.lst xs] => (ptsOf xs).bind fun ps => match ps with
    | [] => none
    | p :: ps => some (ptD (minPT p ps))
  | _ => none
theorem d_minPT {K : PySem.W.Frag} : Fn1 K dMinPT (rMinPT K) := by
  intro F H vs ds d Q s r e q
  unfold dMinPT at e
  split at e
  · rename_i xs
    obtain ⟨ps, e1, e⟩ := Option.bind_eq_some_iff.mp e
    split at e
    · cases e
    · rename_i p ps'
      cases e
      obtain ⟨v, rfl, rr⟩ := bl1 r
      obtain ⟨a, ws, rfl, h1, r1⟩ := rr.lst s
      rw [ptsOf_some e1] at r1
      exact ⟨a, ws, F, p, ps', rfl, .of h1, s, r1, fun v rv => q v H F (.refl s) rv⟩
  · cases e
/-! ### len of a dict -/
def rLenD : List V → Hp → VK → Prop := fun vs H Q => ∃ (a : Addr) (kvs : List (L2.Key × V)), vs = [.ref a] ∧ Rd H a (.dK kvs) ∧ Q (.int kvs.length) H
theorem cr_lenD {X : Cx} : CallR X (.builtin "len") rLenD := by
  intro pins s σ H vs us Q I r h
  obtain ⟨a, kvs, rfl, hd, q⟩ := h
  rw [Vals.ref1 r]
  exact L2.d_len I hd fun t s' I' => ⟨.int kvs.length, H, I', ⟨t, rfl⟩, q⟩
def dLenD : List D → Option D
  | [.dic ks _] => some (.int ks.length)
  | _ => none
theorem d_lenD {K : PySem.W.Frag} : Fn1 K dLenD rLenD := by
  intro F H vs ds d Q s r e q
  unfold dLenD at e
  split at e
  · cases e
    obtain ⟨v, rfl, rr⟩ := bl1 r
    obtain ⟨a, kvs, rfl, hd, ek, _⟩ := rr.dicI s
    refine ⟨a, kvs, rfl, hd, ?_⟩
    have := congrArg List.length ek
    rw [List.length_map, List.length_map] at this
    rw [this]
    exact q _ H F (.refl s) (.int _)
  · cases e
end SK

set_option Elab.async false
set_option linter.all false
set_option maxRecDepth 100000
set_option maxHeartbeats 4000000
set_option autoImplicit false
namespace SK
open PySem PySem.Spec PyProof.Rows L2
/-! sorted(set(rows)), min of pairs, len of a dict -/
noncomputable def tInsR (x : List Int) (ys : List (List Int)) : List (List Int) := List.rec (motive := fun _ => List (List Int)) [x] (fun y ys ih => bIf (lEq iEq x y) (y :: ys) (bIf (lexT x y) (x :: y :: ys) (y :: ih))) ys
noncomputable def tSetR (xs : List (List Int)) : List (List Int) := List.rec (motive := fun _ => List (List Int)) [] (fun x _ ih => tInsR x ih) xs
theorem tInsR_eq (x : List Int) : ∀ ys, tInsR x ys = insR x ys
  | [] => rfl
  | y :: ys => by
    show bIf (lEq iEq x y) (y :: ys) (bIf (lexT x y) (x :: y :: ys) (y :: tInsR x ys)) = insR x (y :: ys)
    unfold insR
    rw [tInsR_eq x ys, lEqI_eq, lexT_eq, bIf_eq, bIf_eq]
    by_cases e : x = y
    · rw [if_pos e, if_pos (decide_eq_true e)]
    · rw [if_neg e, if_neg (by rw [decide_eq_false e]; decide)]
theorem tSetR_eq : ∀ xs, tSetR xs = setR xs
  | [] => rfl
  | x :: xs => by show tInsR x (tSetR xs) = insR x (setR xs); rw [tInsR_eq, tSetR_eq xs]
noncomputable def tAllI (p : Int → Bool) (xs : List Int) : Bool := List.rec (motive := fun _ => Bool) true (fun x _ ih => bAnd (p x) ih) xs
theorem tAllI_eq (p : Int → Bool) : ∀ xs, tAllI p xs = xs.all p
  | [] => rfl
  | x :: xs => by show bAnd (p x) (tAllI p xs) = _; rw [tAllI_eq p xs, bAnd_eq]; rfl
noncomputable def tAllR (d : Nat) (xs : List (List Int)) : Bool := List.rec (motive := fun _ => Bool) true (fun x _ ih => bAnd (bAnd (Nat.beq (tLenN x) d) (tAllI (fun m => bAnd (iLe (.ofNat 0) m) (iLt m (.ofNat 1000))) x)) ih) xs
theorem tAllR_eq (d : Nat) : ∀ xs, tAllR d xs = xs.all (okRow d)
  | [] => rfl
  | x :: xs => by
    show bAnd (bAnd (Nat.beq (tLenN x) d) (tAllI (fun m => bAnd (iLe (.ofNat 0) m) (iLt m (.ofNat 1000))) x)) (tAllR d xs) = _
    rw [tAllR_eq d xs, bAnd_eq, bAnd_eq, tAllI_eq, tLenN_eq, List.all_cons]
    congr 1
    unfold okRow
    congr 1
    · by_cases h : x.length = d
      · rw [decide_eq_true h, h]; exact Nat.beq_refl d
      · rw [decide_eq_false h]; exact Bool.eq_false_iff.mpr fun z => h (Nat.eq_of_beq_eq_true z)
    · congr 1
      funext m
      rw [bAnd_eq, iLe_eq, iLt_eq]; rfl
noncomputable def tHdLen (xs : List (List Int)) : Nat := List.rec (motive := fun _ => Nat) 1 (fun x _ _ => tLenN x) xs
theorem tHdLen_eq : ∀ xs, tHdLen xs = hdLen xs
  | [] => rfl
  | x :: xs => tLenN_eq x
noncomputable def tSetT (xs : List (List Int)) : Option (List (List Int)) := bIf (bAnd (bAnd (Nat.ble 1 (tHdLen xs)) (tAllR (tHdLen xs) xs)) (Nat.ble (Nat.succ (tLenN xs)) 64)) (some (tSetR xs)) none
section
variable {ss : Sp} {a : ME}
theorem Eo.setT {xs : List (List Int)} (h : Eg ss a (eL (eT eI) xs)) : Eo ss (mCall dSetT (mCons a mNil)) (eL (eT eI)) (tSetT xs) := Eo.call (fun r hr => by
  obtain ⟨c, hr⟩ := bIf_some hr
  cases hr
  rw [bAnd_eq, bAnd_eq, tAllR_eq, tHdLen_eq, tLenN_eq] at c
  have e1 : ∀ ys : List (List Int), ys.map (eT eI) = ys.map tupI := fun ys => List.map_congr_left fun x _ => rfl
  show (tupsOf (xs.map (eT eI))).bind _ = some (D.lst ((tSetR xs).map (eT eI)))
  rw [e1, e1, tupsOf_map, Option.bind_some, tSetR_eq, if_pos]
  simp only [Bool.and_eq_true, decide_eq_true_eq] at c ⊢
  exact ⟨⟨Nat.le_of_ble_eq_true c.1.1, c.1.2⟩, Nat.le_of_ble_eq_true c.2⟩) (.ac h .a0)
noncomputable def tLtPT (p q : Int × List Int) : Bool := lexT (p.1 :: p.2) (q.1 :: q.2)
noncomputable def tMinPT (ps : List (Int × List Int)) : Option (Int × List Int) := List.rec (motive := fun _ => Option (Int × List Int)) none (fun p ps _ => some (List.rec (motive := fun _ => Int × List Int → Int × List Int) (fun m => m) (fun y _ ih m => ih (bIf (tLtPT y m) y m)) ps p)) ps
theorem tMinPT_fold : ∀ (ps : List (Int × List Int)) (p : Int × List Int), (List.rec (motive := fun _ => Int × List Int → Int × List Int) (fun m => m) (fun y _ ih m => ih (bIf (tLtPT y m) y m)) ps p : Int × List Int) = minPT p ps
  | [], _ => rfl
  | y :: ps, p => by
    show (List.rec (motive := fun _ => Int × List Int → Int × List Int) (fun m => m) (fun y _ ih m => ih (bIf (tLtPT y m) y m)) ps (bIf (tLtPT y p) y p) : Int × List Int) = minPT (if ltPT y p = true then y else p) ps
    rw [tMinPT_fold ps, bIf_eq]
    unfold tLtPT ltPT
    rw [lexT_eq]
theorem Eo.minPT {ps : List (Int × List Int)} (h : Eg ss a (eL (eP2 eI (eT eI)) ps)) : Eo ss (mCall dMinPT (mCons a mNil)) (eP2 eI (eT eI)) (tMinPT ps) := Eo.call (fun r hr => by
  have e1 : ps.map (eP2 eI (eT eI)) = ps.map ptD := List.map_congr_left fun x _ => rfl
  show (ptsOf (ps.map (eP2 eI (eT eI)))).bind _ = _
  rw [e1, ptsOf_map, Option.bind_some]
  cases ps with
  | nil => cases hr
  | cons p ps =>
    have hr : some (List.rec (motive := fun _ => Int × List Int → Int × List Int) (fun m => m) (fun y _ ih m => ih (bIf (tLtPT y m) y m)) ps p : Int × List Int) = some r := hr
    rw [tMinPT_fold] at hr
    cases hr; rfl) (.ac h .a0)
theorem Eg.lenD {α : Type} {e : α → D} {L : List (Int × α)} (h : Eg ss a (eA e L)) : Eg ss (mCall dLenD (mCons a mNil)) (eI (iLen L)) := Eg.call (by
  rw [iLen_eq]
  show some (D.int ((L.map Prod.fst).length : Nat)) = _
  rw [List.length_map]; rfl) (.ac h .a0)
/-! sorted(rows), rows of two ints -/
noncomputable def tAll2 (xs : List (List Int)) : Bool := List.rec (motive := fun _ => Bool) true (fun x _ ih => bAnd (Nat.beq 2 (tLenN x)) ih) xs
noncomputable def tSortT2 (xs : List (List Int)) : Option (List (List Int)) := bIf (bOr (tAll3 xs) (tAll2 xs)) (some (tSortK (fun x => x) xs)) none
theorem tAll2_mem : ∀ {xs : List (List Int)}, tAll2 xs = true → ∀ x ∈ xs, x.length = 2
  | [], _, _, h => nomatch h
  | y :: xs, e, x, h => by
    have e : bAnd (Nat.beq 2 (tLenN y)) (tAll2 xs) = true := e
    rw [bAnd_eq, Bool.and_eq_true, tLenN_eq] at e
    rcases List.mem_cons.mp h with rfl | h
    · exact (Nat.eq_of_beq_eq_true e.1).symm
    · exact tAll2_mem e.2 x h
theorem pairs2 : ∀ {xs : List (List Int)}, (∀ x ∈ xs, x.length = 2) → ∃ ps : List (Int × Int), xs = ps.map fun p => [p.1, p.2]
  | [], _ => ⟨[], rfl⟩
  | x :: xs, h => by
    obtain ⟨ps, rfl⟩ := pairs2 fun y hy => h y (List.mem_cons_of_mem _ hy)
    match x, h x List.mem_cons_self with
    | [a, b], _ => exact ⟨(a, b) :: ps, rfl⟩
theorem lexB_L (q p : Int × Int) : SrtO.lexB q p = lexL [q.1, q.2] [p.1, p.2] := by
  unfold SrtO.lexB lexL lexL lexL
  by_cases h : q.1 = p.1
  · rw [h]
    by_cases h2 : q.2 = p.2
    · simp [h2]
    · simp [h2]
  · rw [if_neg h]
    simp [h]
theorem insP_L (p : Int × Int) : ∀ ps : List (Int × Int), (SK.insP p ps).map (fun p => [p.1, p.2]) = insL [p.1, p.2] (ps.map fun p => [p.1, p.2])
  | [] => rfl
  | q :: ps => by
    unfold SK.insP
    rw [List.map_cons]
    unfold insL
    rw [lexB_L]
    by_cases h : lexL [q.1, q.2] [p.1, p.2] = true
    · rw [if_pos h, if_pos h, List.map_cons, insP_L p ps]
    · rw [if_neg h, if_neg h]; rfl
theorem sortP_L : ∀ ps : List (Int × Int), (SK.sortP ps).map (fun p => [p.1, p.2]) = sortL (ps.map fun p => [p.1, p.2])
  | [] => rfl
  | p :: ps => by
    show (SK.insP p (SK.sortP ps)).map _ = insL [p.1, p.2] (sortL (ps.map _))
    rw [insP_L, sortP_L ps]
theorem Eo.sortAT2 {xs : List (List Int)} (ha : Eg ss a (eL (eT eI) xs)) : Eo ss (mCall dSortA (mCons a mNil)) (eL (eT eI)) (tSortT2 xs) := fun r hr => by
  obtain ⟨c, hr⟩ := bIf_some hr
  cases hr
  rw [bOr_eq, Bool.or_eq_true] at c
  by_cases c3 : tAll3 xs = true
  · exact Eo.sortAT ha _ (by unfold tSortT; rw [c3]; rfl)
  · have c2 := tAll2_mem (c.resolve_left c3)
    obtain ⟨ps, rfl⟩ := pairs2 c2
    refine Eg.call ?_ (.ac ha .a0)
    unfold dSortA
    cases ps with
    | nil => rfl
    | cons p ps =>
      have e1 : ∀ ps : List (Int × Int), (ps.map fun p => [p.1, p.2]).map (eT eI) = ps.map pairD := fun ps => by
        rw [List.map_map]; rfl
      have e2 : dSorted [eL (eT eI) ((p :: ps).map fun p => [p.1, p.2])] = some (D.lst ((SK.sortP (p :: ps)).map pairD)) := by
        unfold eL
        rw [e1]
        show (match intsOf ((p :: ps).map pairD) with | some ns => some (D.lst ((SK.sortI ns).map .int)) | none => (pairsOf ((p :: ps).map pairD)).map fun ps => .lst ((SK.sortP ps).map pairD)) = _
        rw [pairsOf_map]; rfl
      rw [e2]
      show some (D.lst ((SK.sortP (p :: ps)).map pairD)) = some (eL (eT eI) (tSortK (fun x => x) ((p :: ps).map fun p => [p.1, p.2])))
      have e3 := tSortK_map (fun x : List Int => x) ((p :: ps).map fun p => [p.1, p.2])
      rw [show (fun x : List Int => x) = id from rfl, List.map_id, List.map_id, ← sortP_L] at e3
      rw [show (fun x : List Int => x) = id from rfl, e3]
      unfold eL
      rw [e1]
end
end SK

set_option Elab.async false
set_option linter.all false
set_option maxRecDepth 100000
set_option maxHeartbeats 4000000
set_option autoImplicit false
namespace K74
open PySem PySem.Spec PyProof.Rows L2 SK
def topS (i : Nat) : Stmt := PySem.Challenge.pw_sealskept_k74_whole_weights_of_rows.main.body.getD i (.Pass ⟨0, 0, 0, 0⟩)
/-! what each def computes -/
def b_all_sets : MS :=
  (sSq (sSet 1 (xV (mLst (mCons (mTup mNil) mNil)))) (sSq (sFor (mRng3 (mBin dSub (mVarB 0) (mC (.int 1))) (mUn dNeg (mC (.int 1))) (mUn dNeg (mC (.int 1)))) (gN 2) (sSet 1 (xV (mBin dAdd (mBin dAdd (mLst (mCons (mTup mNil) mNil)) (mLc (mItems (mVar 1)) (gN 3) mYes (mBin dAdd (mTup (mCons (mVar 2) mNil)) (mVarB 3)) [3])) (mLc (mItems (mVar 1)) (gN 3) (mTru (mVarB 3)) (mVar 3) [3]))))) (sRt (mVar 1))))
def m_all_sets : List D → Option D := runFn 1 4 b_all_sets
def b_mask_of : MS :=
  (sRt (mCall dSumA (mCons (mLc (mEnumA (mVar 0)) (gT (gsC (gN 1) (gsC (gN 2) gsN))) (mTru (mVarB 2)) (mBin dShl (mC (.int 1)) (mVarB 1)) [1, 2]) mNil)))
def m_mask_of : List D → Option D := runFn 1 3 b_mask_of
def b_parity_left : MS :=
  (sSq (sSet 2 (xO (mC (.dic [] [])))) (sSq (sFor (mItems (mVar 1)) (gN 3) (sSq (sSet 4 (xV (mCall m_mask_of (mCons (mVar 3) mNil)))) (sSq (mWh (mtAnd (mTru (mVarB 4)) (mTB (mBin dInD (mUn dBits (mVarB 4)) (mVarB 2)))) (sSet 4 (xV (mBin dXor (mVarB 4) (mBin dGetA (mVarB 2) (mUn dBits (mVarB 4)))))) 2000) (sIf (mTru (mVarB 4)) (sPut 2 (mUn dBits (mVarB 4)) (mVar 4)) sNx)))) (sRt (mBin dSub (mVarB 0) (mCall dLenD (mCons (mVarB 2) mNil))))))
def m_parity_left : List D → Option D := runFn 2 5 b_parity_left
def b_parity_of : MS :=
  (sRt (mBin dMod (mCall dSumA (mCons (mLc (mZipC (mVar 0) (mVar 1)) (gT (gsC (gN 2) (gsC (gN 3) gsN))) mYes (mBin dAnd (mVarB 2) (mVarB 3)) [2, 3]) mNil)) (mC (.int 2))))
def m_parity_of : List D → Option D := runFn 2 4 b_parity_of
def b_squeezed : MS :=
  (sRt (mCall dTuple (mCons (mLc (mItems (mVar 0)) (gN 2) mYes (mCall m_parity_of (mCons (mVar 2) (mCons (mVar 1) mNil))) [2]) mNil)))
def m_squeezed : List D → Option D := runFn 2 3 b_squeezed
def b_settled_places : MS :=
  (sSq (sSet 2 (xO (mC (.dic [] [])))) (sSq (sFor (mZipC (mVar 0) (mVar 1)) (gT (gsC (gN 3) (gsC (gN 4) gsN))) (sSq (sSet 5 (xV (mCall m_mask_of (mCons (mVar 3) mNil)))) (sSq (mWh (mtAnd (mTru (mVarB 5)) (mTB (mBin dInD (mUn dBits (mVarB 5)) (mVarB 2)))) (sSq (sTg (gT (gsC (gN 6) (gsC (gN 7) gsN))) (mBin dGetA (mVarB 2) (mUn dBits (mVarB 5)))) (sSq (sSet 5 (xV (mBin dXor (mVarB 5) (mVarB 6)))) (sSet 4 (xV (mBin dXor (mVarB 4) (mVarB 7)))))) 2000) (sIf (mTru (mVarB 5)) (sPut 2 (mUn dBits (mVarB 5)) (mTup (mCons (mVar 5) (mCons (mVar 4) mNil)))) (sIf (mTru (mVarB 4)) (sRt (mC .non)) sNx))))) (sSq (sSet 8 (xO (mC (.dic [] [])))) (sSq (sFrz 2 (sFor (mItemsD (mVar 2)) (gT (gsC (gN 9) (gsC (gT (gsC (gN 5) (gsC (gN 4) gsN))) gsN))) (sPut 8 (mBin dSub (mVarB 9) (mC (.int 1))) (mTup (mCons (mLc (mRng1 (mBin dSub (mVarB 9) (mC (.int 1)))) (gN 10) (mTru (mBin dAnd (mBin dShr (mVarB 5) (mVarB 10)) (mC (.int 1)))) (mVar 10) [10]) (mCons (mVar 4) mNil)))))) (sFrz 8 (sRt (mVar 8)))))))
def m_settled_places : List D → Option D := runFn 2 11 b_settled_places
def b_coset_words : MS :=
  (sSq (sSet 2 (xV (mCall m_settled_places (mCons (mVar 0) (mCons (mVar 1) mNil))))) (sSq (sIf (mTB (mBin dIs (mVarB 2) (mC .non))) (sRt (mTup mNil)) sNx) (sSq (sSet 3 (xV (mLst (mCons (mTup mNil) mNil)))) (sSq (sFor (mRng1 (mIf (mTru (mVarB 0)) (mCall dLen (mCons (mBin dIx (mVarB 0) (mC (.int 0))) mNil)) (mC (.int 0)))) (gN 4) (sIf (mTB (mBin dInD (mVarB 4) (mVarB 2))) (sSq (sTg (gT (gsC (gN 5) (gsC (gN 6) gsN))) (mBin dGetA (mVarB 2) (mVarB 4))) (sSetF 3 (mLc (mItems (mVar 3)) (gN 7) mYes (mBin dAdd (mVarB 7) (mTup (mCons (mBin dMod (mBin dAdd (mCall dSumA (mCons (mLc (mItems (mVar 5)) (gN 8) mYes (mBin dIx (mVarB 7) (mVarB 8)) [8]) mNil)) (mVarB 6)) (mC (.int 2))) mNil))) [7]))) (sSetF 3 (mLc2 (mItems (mVar 3)) (gN 7) mYes (mItems (mTup (mCons (mC (.int 0)) (mCons (mC (.int 1)) mNil)))) (gN 6) mYes (mBin dAdd (mVarB 7) (mTup (mCons (mVar 6) mNil))) [7, 6] [6])))) (sRt (mCall dTuple (mCons (mVarB 3) mNil)))))))
def m_coset_words : List D → Option D := runFn 2 9 b_coset_words
def b_lacks_of : MS :=
  (sRt (mCall dTuple (mCons (mLc (mZipC (mVar 0) (mVar 2)) (gT (gsC (gN 3) (gsC (gN 4) gsN))) mYes (mBin dMod (mBin dAdd (mCall dSumA (mCons (mLc (mZipC (mVar 3) (mVar 1)) (gT (gsC (gN 5) (gsC (gN 6) gsN))) mYes (mBin dMulI (mVarB 5) (mVarB 6)) [5, 6]) mNil)) (mVarB 4)) (mC (.int 2))) [3, 4]) mNil)))
def m_lacks_of : List D → Option D := runFn 3 7 b_lacks_of
def b_least_changes : MS :=
  (sSq (sFor (mItems (mCall (dSortKey m_size_key) (mCons (mCall m_all_sets (mCons (mCall dLen (mCons (mVarB 2) mNil)) mNil)) mNil))) (gN 3) (sSq (sSet 4 (xV (mLc (mItems (mVar 3)) (gN 5) mYes (mBin dIx (mVarB 2) (mVarB 5)) [5]))) (sIf (mTru (mCall dAll (mCons (mLc (mZipC (mVar 0) (mVar 1)) (gT (gsC (gN 6) (gsC (gN 7) gsN))) mYes (mBin dEq (mBin dMod (mCall dSumA (mCons (mLc (mItems (mVar 4)) (gN 8) mYes (mBin dIx (mVarB 6) (mVarB 8)) [8]) mNil)) (mC (.int 2))) (mVarB 7)) [6, 7]) mNil))) (sRt (mCall dTuple (mCons (mVarB 4) mNil))) sNx))) (sRt (mC .non)))
def m_least_changes : List D → Option D := runFn 3 9 b_least_changes
def b_changes_needed : MS :=
  (sSq (sSet 3 (xV (mCall m_least_changes (mCons (mVar 0) (mCons (mCall m_lacks_of (mCons (mVar 0) (mCons (mVar 1) (mCons (mVar 2) mNil)))) (mCons (mTupR (mR1 (mCall dLen (mCons (mVarB 1) mNil)))) mNil)))))) (sRt (mIf (mTB (mBin dIs (mVarB 3) (mC .non))) (mC .non) (mTup (mCons (mCall dLen (mCons (mVarB 3) mNil)) (mCons (mVar 3) mNil))))))
def m_changes_needed : List D → Option D := runFn 3 4 b_changes_needed
def b__law_bits : MS :=
  (sSq (sSet 1 (xV (mLst (mCons (mTup mNil) mNil)))) (sSq (sFor (mRng1 (mVarB 0)) (gN 2) (sSq (sSet 3 (xO (mLst mNil))) (sSq (sFor (mItems (mVar 1)) (gN 4) (sExt 3 (mLst (mCons (mBin dAdd (mVarB 4) (mTup (mCons (mC (.int 0)) mNil))) (mCons (mBin dAdd (mVarB 4) (mTup (mCons (mC (.int 1)) mNil))) mNil))))) (sFrz 3 (sSet 1 (xV (mVar 3))))))) (sRt (mVar 1))))
def m__law_bits : List D → Option D := runFn 1 5 b__law_bits
def b__law_choose : MS :=
  (sSq (sSet 2 (xV (mC (.int 1)))) (sSq (sFor (mRng1 (mVarB 1)) (gN 3) (sSet 2 (xV (mBin dDiv (mBin dMulI (mVarB 2) (mCall dMax2 (mCons (mC (.int 0)) (mCons (mBin dSub (mVarB 0) (mVarB 3)) mNil)))) (mBin dAdd (mVarB 3) (mC (.int 1))))))) (sRt (mVar 2))))
def m__law_choose : List D → Option D := runFn 2 4 b__law_choose
def b__law_sum : MS :=
  (sRt (mCall dTuple (mCons (mLc (mRng1 (mCall dLen (mCons (mVarB 0) mNil))) (gN 2) mYes (mBin dXor (mBin dIx (mVarB 0) (mVarB 2)) (mBin dIx (mVarB 1) (mVarB 2))) [2]) mNil)))
def m__law_sum : List D → Option D := runFn 2 3 b__law_sum
def b__law_even : MS :=
  (sRt (mBin dMod (mCall dInt1 (mCons (mCall dSumA (mCons (mLc (mRng1 (mCall dLen (mCons (mVarB 0) mNil))) (gN 2) mYes (mBin dMulI (mBin dIx (mVarB 0) (mVarB 2)) (mBin dIx (mVarB 1) (mVarB 2))) [2]) mNil)) mNil)) (mC (.int 2))))
def m__law_even : List D → Option D := runFn 2 3 b__law_even
def b__law_table : MS :=
  (sSq (sPar3 1 2 3 (xV (mBin dAdd (mC (.int 2)) (mBin dMod (mCall dInt1 (mCons (mBin dIx (mVarB 0) (mC (.int 0))) mNil)) (mC (.int 4))))) (xV (mBin dAdd (mC (.int 1)) (mBin dMod (mCall dInt1 (mCons (mBin dIx (mVarB 0) (mC (.int 1))) mNil)) (mC (.int 3))))) (xO (mLst mNil))) (sSq (sFor (mRng1 (mVarB 2)) (gN 4) (sApp 3 (mCall dTuple (mCons (mLc (mRng1 (mVarB 1)) (gN 5) mYes (mBin dMod (mCall dInt1 (mCons (mBin dIx (mVarB 0) (mBin dAdd (mBin dAdd (mC (.int 2)) (mBin dMulI (mC (.int 5)) (mVarB 4))) (mVarB 5))) mNil)) (mC (.int 2))) [5]) mNil)))) (sSq (sIf (mtAnd (mTB (mBin dEq (mVarB 2) (mC (.int 3)))) (mTB (mBin dEq (mBin dMod (mCall dInt1 (mCons (mBin dIx (mVarB 0) (mC (.int 17))) mNil)) (mC (.int 3))) (mC (.int 1))))) (sSetIx 3 (mC (.int 2)) (mCall m__law_sum (mCons (mBin dIx (mVarB 3) (mC (.int 0))) (mCons (mBin dIx (mVarB 3) (mC (.int 1))) mNil)))) sNx) (sRt (mCall dTuple (mCons (mVarB 3) mNil))))))
def m__law_table : List D → Option D := runFn 1 6 b__law_table
def b__law_made : MS :=
  (sSq (sSet 2 (xO (mLst mNil))) (sSq (sFor (mItems (mCall m__law_bits (mCons (mCall dLen (mCons (mVarB 0) mNil)) mNil))) (gN 3) (sSq (sSet 4 (xV (mCall dTuple (mCons (mBin dRepL (mLst (mCons (mC (.int 0)) mNil)) (mVarB 1)) mNil)))) (sSq (sFor (mRng1 (mCall dLen (mCons (mVarB 0) mNil))) (gN 5) (sIf (mTB (mBin dEq (mBin dIx (mVarB 3) (mVarB 5)) (mC (.int 1)))) (sSet 4 (xV (mCall m__law_sum (mCons (mVar 4) (mCons (mBin dIx (mVarB 0) (mVarB 5)) mNil))))) sNx)) (sApp 2 (mTup (mCons (mVar 3) (mCons (mVar 4) mNil))))))) (sFrz 2 (sRt (mVar 2)))))
def m__law_made : List D → Option D := runFn 2 6 b__law_made
def b__law_weight : MS :=
  (sSq (sPar 2 3 (xV (mCall dSumA (mCons (mVarB 0) mNil))) (xV (mC (.int 0)))) (sSq (sFor (mRng1 (mBin dAdd (mVarB 1) (mC (.int 1)))) (gN 4) (sSq (sSet 5 (xV (mBin dMulI (mCall m__law_choose (mCons (mVar 2) (mCons (mVar 4) mNil))) (mCall m__law_choose (mCons (mBin dSub (mCall dLen (mCons (mVarB 0) mNil)) (mVarB 2)) (mCons (mBin dSub (mVarB 1) (mVarB 4)) mNil)))))) (sSet 3 (xV (mBin dAdd (mVarB 3) (mBin dMulI (mVarB 5) (mBin dIx (mTup (mCons (mC (.int 1)) (mCons (mUn dNeg (mC (.int 1))) mNil))) (mBin dMod (mCall dInt1 (mCons (mVarB 4) mNil)) (mC (.int 2)))))))))) (sRt (mVar 3))))
def m__law_weight : List D → Option D := runFn 2 6 b__law_weight
def b__law_space_right : MS :=
  (sSq (sPar3 3 4 5 (xV (mCall dTuple (mCons (mLc (mItems (mVar 0)) (gN 10) mYes (mC (.int 0)) [10]) mNil))) (xV (mCall m_parity_left (mCons (mVar 1) (mCons (mVar 0) mNil)))) (xV (mC (.int 1)))) (sSq (sSet 6 (xV (mCall m_coset_words (mCons (mVar 0) (mCons (mVar 3) mNil))))) (sSq (sSetF 7 (mLc (mItems (mCall m__law_bits (mCons (mVar 1) mNil))) (gN 10) (mtNot (mTru (mCall dAnyA (mCons (mLc (mItems (mVar 0)) (gN 12) mYes (mBin dEq (mCall m__law_even (mCons (mVar 10) (mCons (mVar 12) mNil))) (mC (.int 1))) [12]) mNil)))) (mVar 10) [10])) (sSq (sIf (mtOr (mtNot (mTru (mCall (m__law_like 10) (mCons (mVar 6) (mCons (mCall dTuple (mCons (mVarB 7) mNil)) mNil))))) (mtOr (mtNot (mTru (mCall m__law_is_int (mCons (mVar 4) mNil)))) (mtOr (mTB (mBin dLt (mVarB 4) (mC (.int 0)))) (mTB (mBin dGt (mVarB 4) (mVarB 1)))))) (sRt (mC (.bl false))) sNx) (sSq (sFor (mRng1 (mVarB 4)) (gN 8) (sSet 5 (xV (mBin dMulI (mC (.int 2)) (mVarB 5))))) (sSq (sIf (mTB (mBin dNe (mVarB 5) (mCall dLen (mCons (mVarB 6) mNil)))) (sRt (mC (.bl false))) sNx) (sSq (sSet 9 (xV (mCall dSetT (mCons (mLc (mItems (mVar 2)) (gT (gsC (gN 11) (gsC (gN 10) gsN))) mYes (mVar 10) [11, 10]) mNil)))) (sSq (sIf (mtNot (mTru (mCall (m__law_like 10) (mCons (mCall m_coset_words (mCons (mVar 6) (mCons (mCall dTuple (mCons (mLc (mItems (mVar 6)) (gN 10) mYes (mC (.int 0)) [10]) mNil)) mNil))) (mCons (mCall dTuple (mCons (mVarB 9) mNil)) mNil))))) (sRt (mC (.bl false))) sNx) (sRt (mAnd (mBin dEq (mBin dMulI (mCall dLen (mCons (mVarB 9) mNil)) (mCall dLen (mCons (mVarB 6) mNil))) (mCall dLen (mCons (mCall m__law_bits (mCons (mVar 1) mNil)) mNil))) (mCall (m__law_like 10) (mCons (mCall m_parity_left (mCons (mVar 1) (mCons (mVar 6) mNil))) (mCons (mBin dSub (mVarB 1) (mVarB 4)) mNil)))))))))))))
def m__law_space_right : List D → Option D := runFn 3 13 b__law_space_right
def b__law_coset_right : MS :=
  (sSq (sPar 6 7 (xV (mCall m_coset_words (mCons (mVar 0) (mCons (mVar 3) mNil)))) (xV (mCall m_coset_words (mCons (mVar 0) (mCons (mCall dTuple (mCons (mLc (mItems (mVar 0)) (gN 5) mYes (mC (.int 0)) [5]) mNil)) mNil))))) (sSq (sIf (mTB (mBin dIs (mVarB 4) (mC .non))) (sRt (mAnd (mCall (m__law_like 10) (mCons (mVar 6) (mCons (mTup mNil) mNil))) (mBin dIs (mCall m_changes_needed (mCons (mVar 0) (mCons (mCall dTuple (mCons (mBin dRepL (mLst (mCons (mC (.int 0)) mNil)) (mVarB 1)) mNil)) (mCons (mVar 3) mNil)))) (mC .non)))) sNx) (sSq (sIf (mtNot (mTru (mCall (m__law_like 10) (mCons (mVar 6) (mCons (mCall dTuple (mCons (mCall dSortB (mCons (mLc (mItems (mVar 7)) (gN 12) mYes (mCall m__law_sum (mCons (mVar 4) (mCons (mVar 12) mNil))) [12]) mNil)) mNil)) mNil))))) (sRt (mC (.bl false))) sNx) (sSq (sIf (mtNot (mTru (mCall dAll (mCons (mLc (mItems (mVar 6)) (gN 12) mYes (mCall (m__law_like 10) (mCons (mCall m_squeezed (mCons (mVar 0) (mCons (mVar 12) mNil))) (mCons (mVar 3) mNil))) [12]) mNil)))) (sRt (mC (.bl false))) sNx) (sSq (sFor (mRng1 (mBin dAdd (mVarB 1) (mC (.int 1)))) (gN 8) (sSq (sPar 9 10 (xV (mCall dSumA (mCons (mLc (mItems (mVar 6)) (gN 12) mYes (mCall m__law_weight (mCons (mVar 12) (mCons (mVar 8) mNil))) [12]) mNil))) (xV (mC (.int 0)))) (sSq (sFor (mItems (mCall dSetT (mCons (mLc (mItems (mVar 2)) (gT (gsC (gN 13) (gsC (gN 12) gsN))) (mTB (mBin dEq (mCall dSumA (mCons (mVarB 12) mNil)) (mVarB 8))) (mVar 12) [13, 12]) mNil))) (gN 5) (sSet 10 (xV (mBin dAdd (mVarB 10) (mBin dIx (mTup (mCons (mC (.int 1)) (mCons (mUn dNeg (mC (.int 1))) mNil))) (mCall m__law_even (mCons (mVar 5) (mCons (mVar 4) mNil)))))))) (sIf (mTB (mBin dNe (mVarB 9) (mBin dMulI (mVarB 10) (mCall dLen (mCons (mVarB 6) mNil))))) (sRt (mC (.bl false))) sNx)))) (sSq (sSet 11 (xV (mCall dMinPT (mCons (mLc (mItems (mVar 6)) (gN 12) mYes (mTup (mCons (mCall dSumA (mCons (mVarB 12) mNil)) (mCons (mCall dTuple (mCons (mLc (mRng1 (mVarB 1)) (gN 14) (mTB (mBin dEq (mBin dIx (mVarB 12) (mVarB 14)) (mC (.int 1)))) (mVar 14) [14]) mNil)) mNil))) [12]) mNil)))) (sRt (mCall (m__law_like 10) (mCons (mCall m_changes_needed (mCons (mVar 0) (mCons (mCall dTuple (mCons (mBin dRepL (mLst (mCons (mC (.int 0)) mNil)) (mVarB 1)) mNil)) (mCons (mVar 3) mNil)))) (mCons (mVar 11) mNil))))))))))
def m__law_coset_right : List D → Option D := runFn 5 15 b__law_coset_right
def b__law_changes_right : MS :=
  (sSq (sSet 4 (xV (mCall dTuple (mCons (mLc (mItems (mVar 0)) (gN 7) mYes (mCall m__law_even (mCons (mVar 3) (mCons (mVar 7) mNil))) [7]) mNil)))) (sSq (sSet 5 (xV (mCall dTuple (mCons (mLc (mItems (mVar 0)) (gN 7) mYes (mCall m__law_even (mCons (mCall m__law_sum (mCons (mVar 2) (mCons (mVar 3) mNil))) (mCons (mVar 7) mNil))) [7]) mNil)))) (sSq (sIf (mtNot (mTru (mCall (m__law_like 10) (mCons (mCall m_squeezed (mCons (mVar 0) (mCons (mVar 3) mNil))) (mCons (mVar 4) mNil))))) (sRt (mC (.bl false))) sNx) (sSq (sSet 6 (xV (mCall m_changes_needed (mCons (mVar 0) (mCons (mVar 2) (mCons (mVar 4) mNil)))))) (sRt (mAnd (mUn (dIsi .tuple) (mVarB 6)) (mCall (m__law_like 10) (mCons (mVar 6) (mCons (mCall m_changes_needed (mCons (mVar 0) (mCons (mCall dTuple (mCons (mBin dRepL (mLst (mCons (mC (.int 0)) mNil)) (mVarB 1)) mNil)) (mCons (mVar 5) mNil)))) mNil)))))))))
def m__law_changes_right : List D → Option D := runFn 4 8 b__law_changes_right
def b_law : MS :=
  (sSq (sSet 1 (xV (mCall m__law_row (mCons (mVar 0) (mCons (mC (.int 40)) mNil))))) (sSq (sSet 2 (xV (mCall m__law_table (mCons (mVar 1) mNil)))) (sSq (sSet 3 (xV (mCall dLen (mCons (mBin dIx (mVarB 2) (mC (.int 0))) mNil)))) (sSq (sSet 4 (xV (mCall m__law_made (mCons (mVar 2) (mCons (mVar 3) mNil))))) (sSq (sSet 5 (xV (mCall dTuple (mCons (mLc (mRng1 (mVarB 3)) (gN 12) mYes (mBin dMod (mCall dInt1 (mCons (mBin dIx (mVarB 1) (mBin dAdd (mC (.int 18)) (mVarB 12))) mNil)) (mC (.int 2))) [12]) mNil)))) (sSq (sSet 6 (xV (mCall dTuple (mCons (mLc (mRng1 (mVarB 3)) (gN 12) mYes (mBin dMod (mCall dInt1 (mCons (mBin dIx (mVarB 1) (mBin dAdd (mC (.int 23)) (mVarB 12))) mNil)) (mC (.int 2))) [12]) mNil)))) (sSq (sIf (mtNot (mTru (mCall m__law_space_right (mCons (mVar 2) (mCons (mVar 3) (mCons (mVar 4) mNil)))))) (sRt (mC (.bl false))) sNx) (sSq (sSet 7 (xV (mCall dTuple (mCons (mLc (mItems (mVar 2)) (gN 13) mYes (mCall m__law_even (mCons (mVar 5) (mCons (mVar 13) mNil))) [13]) mNil)))) (sSq (sSet 8 (xV (mCall dTuple (mCons (mLc (mRng1 (mCall dLen (mCons (mVarB 2) mNil))) (gN 12) mYes (mBin dMod (mCall dInt1 (mCons (mBin dIx (mVarB 1) (mBin dAdd (mC (.int 28)) (mVarB 12))) mNil)) (mC (.int 2))) [12]) mNil)))) (sSq (sIf (mtNot (mTru (mCall m__law_coset_right (mCons (mVar 2) (mCons (mVar 3) (mCons (mVar 4) (mCons (mVar 7) (mCons (mVar 5) mNil)))))))) (sRt (mC (.bl false))) sNx) (sSq (sSetF 9 (mLc (mItems (mCall m__law_bits (mCons (mVar 3) mNil))) (gN 11) (mTB (mBin dEq (mCall dTuple (mCons (mLc (mItems (mVar 2)) (gN 13) mYes (mCall m__law_even (mCons (mVar 11) (mCons (mVar 13) mNil))) [13]) mNil)) (mVarB 8))) (mVar 11) [11])) (sSq (sSet 10 (xV (mC .non))) (sSq (sIf (mTB (mBin dGt (mCall dLen (mCons (mVarB 9) mNil)) (mC (.int 0)))) (sSet 10 (xV (mBin dIx (mVarB 9) (mUn dNeg (mC (.int 1)))))) sNx) (sSq (sIf (mtNot (mTru (mCall m__law_coset_right (mCons (mVar 2) (mCons (mVar 3) (mCons (mVar 4) (mCons (mVar 8) (mCons (mVar 10) mNil)))))))) (sRt (mC (.bl false))) sNx) (sRt (mCall m__law_changes_right (mCons (mVar 2) (mCons (mVar 3) (mCons (mVar 5) (mCons (mVar 6) mNil))))))))))))))))))))
def m_law : List D → Option D := runFn 1 14 b_law
/-! where each def stands -/
structure Tx (K : PySem.W.Frag) (mg : Str → Option Value) where
  f_all_sets : Addr
  fd_all_sets : FuncData
  F_all_sets : Fun K "all_sets" "all_sets" (topS 1) f_all_sets fd_all_sets
  g_all_sets : mg "all_sets" = some (.ref f_all_sets)
  b_all_sets : Binds K fd_all_sets ["n"] []
  f_size_key : Addr
  fd_size_key : FuncData
  F_size_key : Fun K "size_key" "size_key" (topS 2) f_size_key fd_size_key
  g_size_key : mg "size_key" = some (.ref f_size_key)
  b_size_key : Binds K fd_size_key ["row"] []
  f_mask_of : Addr
  fd_mask_of : FuncData
  F_mask_of : Fun K "mask_of" "mask_of" (topS 4) f_mask_of fd_mask_of
  g_mask_of : mg "mask_of" = some (.ref f_mask_of)
  b_mask_of : Binds K fd_mask_of ["row"] []
  f_parity_left : Addr
  fd_parity_left : FuncData
  F_parity_left : Fun K "parity_left" "parity_left" (topS 5) f_parity_left fd_parity_left
  g_parity_left : mg "parity_left" = some (.ref f_parity_left)
  b_parity_left : Binds K fd_parity_left ["n", "sums"] []
  f_parity_of : Addr
  fd_parity_of : FuncData
  F_parity_of : Fun K "parity_of" "parity_of" (topS 6) f_parity_of fd_parity_of
  g_parity_of : mg "parity_of" = some (.ref f_parity_of)
  b_parity_of : Binds K fd_parity_of ["row", "bits"] []
  f_squeezed : Addr
  fd_squeezed : FuncData
  F_squeezed : Fun K "squeezed" "squeezed" (topS 7) f_squeezed fd_squeezed
  g_squeezed : mg "squeezed" = some (.ref f_squeezed)
  b_squeezed : Binds K fd_squeezed ["table", "bits"] []
  f_settled_places : Addr
  fd_settled_places : FuncData
  F_settled_places : Fun K "settled_places" "settled_places" (topS 8) f_settled_places fd_settled_places
  g_settled_places : mg "settled_places" = some (.ref f_settled_places)
  b_settled_places : Binds K fd_settled_places ["table", "message"] []
  f_coset_words : Addr
  fd_coset_words : FuncData
  F_coset_words : Fun K "coset_words" "coset_words" (topS 9) f_coset_words fd_coset_words
  g_coset_words : mg "coset_words" = some (.ref f_coset_words)
  b_coset_words : Binds K fd_coset_words ["table", "message"] []
  f_lacks_of : Addr
  fd_lacks_of : FuncData
  F_lacks_of : Fun K "lacks_of" "lacks_of" (topS 11) f_lacks_of fd_lacks_of
  g_lacks_of : mg "lacks_of" = some (.ref f_lacks_of)
  b_lacks_of : Binds K fd_lacks_of ["table", "bits", "message"] []
  f_least_changes : Addr
  fd_least_changes : FuncData
  F_least_changes : Fun K "least_changes" "least_changes" (topS 12) f_least_changes fd_least_changes
  g_least_changes : mg "least_changes" = some (.ref f_least_changes)
  b_least_changes : Binds K fd_least_changes ["table", "lacks", "places"] []
  f_changes_needed : Addr
  fd_changes_needed : FuncData
  F_changes_needed : Fun K "changes_needed" "changes_needed" (topS 13) f_changes_needed fd_changes_needed
  g_changes_needed : mg "changes_needed" = some (.ref f_changes_needed)
  b_changes_needed : Binds K fd_changes_needed ["table", "bits", "message"] []
  f__law_mixed : Addr
  fd__law_mixed : FuncData
  F__law_mixed : Fun K "_law_mixed" "_law_mixed" (topS 15) f__law_mixed fd__law_mixed
  g__law_mixed : mg "_law_mixed" = some (.ref f__law_mixed)
  b__law_mixed : Binds K fd__law_mixed ["script", "k"] []
  f__law_row : Addr
  fd__law_row : FuncData
  F__law_row : Fun K "_law_row" "_law_row" (topS 16) f__law_row fd__law_row
  g__law_row : mg "_law_row" = some (.ref f__law_row)
  b__law_row : Binds K fd__law_row ["script", "many"] []
  f__law_is_int : Addr
  fd__law_is_int : FuncData
  F__law_is_int : Fun K "_law_is_int" "_law_is_int" (topS 17) f__law_is_int fd__law_is_int
  g__law_is_int : mg "_law_is_int" = some (.ref f__law_is_int)
  b__law_is_int : Binds K fd__law_is_int ["value"] []
  f__law_like : Addr
  fd__law_like : FuncData
  F__law_like : Fun K "_law_like" "_law_like" (topS 18) f__law_like fd__law_like
  g__law_like : mg "_law_like" = some (.ref f__law_like)
  b__law_like : Binds K fd__law_like ["value", "due"] []
  f__law_bits : Addr
  fd__law_bits : FuncData
  F__law_bits : Fun K "_law_bits" "_law_bits" (topS 19) f__law_bits fd__law_bits
  g__law_bits : mg "_law_bits" = some (.ref f__law_bits)
  b__law_bits : Binds K fd__law_bits ["count"] []
  f__law_choose : Addr
  fd__law_choose : FuncData
  F__law_choose : Fun K "_law_choose" "_law_choose" (topS 20) f__law_choose fd__law_choose
  g__law_choose : mg "_law_choose" = some (.ref f__law_choose)
  b__law_choose : Binds K fd__law_choose ["n", "k"] []
  f__law_sum : Addr
  fd__law_sum : FuncData
  F__law_sum : Fun K "_law_sum" "_law_sum" (topS 21) f__law_sum fd__law_sum
  g__law_sum : mg "_law_sum" = some (.ref f__law_sum)
  b__law_sum : Binds K fd__law_sum ["first", "second"] []
  f__law_even : Addr
  fd__law_even : FuncData
  F__law_even : Fun K "_law_even" "_law_even" (topS 22) f__law_even fd__law_even
  g__law_even : mg "_law_even" = some (.ref f__law_even)
  b__law_even : Binds K fd__law_even ["first", "second"] []
  f__law_table : Addr
  fd__law_table : FuncData
  F__law_table : Fun K "_law_table" "_law_table" (topS 23) f__law_table fd__law_table
  g__law_table : mg "_law_table" = some (.ref f__law_table)
  b__law_table : Binds K fd__law_table ["row"] []
  f__law_made : Addr
  fd__law_made : FuncData
  F__law_made : Fun K "_law_made" "_law_made" (topS 24) f__law_made fd__law_made
  g__law_made : mg "_law_made" = some (.ref f__law_made)
  b__law_made : Binds K fd__law_made ["table", "n"] []
  f__law_weight : Addr
  fd__law_weight : FuncData
  F__law_weight : Fun K "_law_weight" "_law_weight" (topS 25) f__law_weight fd__law_weight
  g__law_weight : mg "_law_weight" = some (.ref f__law_weight)
  b__law_weight : Binds K fd__law_weight ["row", "j"] []
  f__law_space_right : Addr
  fd__law_space_right : FuncData
  F__law_space_right : Fun K "_law_space_right" "_law_space_right" (topS 26) f__law_space_right fd__law_space_right
  g__law_space_right : mg "_law_space_right" = some (.ref f__law_space_right)
  b__law_space_right : Binds K fd__law_space_right ["table", "n", "made"] []
  f__law_coset_right : Addr
  fd__law_coset_right : FuncData
  F__law_coset_right : Fun K "_law_coset_right" "_law_coset_right" (topS 27) f__law_coset_right fd__law_coset_right
  g__law_coset_right : mg "_law_coset_right" = some (.ref f__law_coset_right)
  b__law_coset_right : Binds K fd__law_coset_right ["table", "n", "made", "message", "row"] []
  f__law_changes_right : Addr
  fd__law_changes_right : FuncData
  F__law_changes_right : Fun K "_law_changes_right" "_law_changes_right" (topS 28) f__law_changes_right fd__law_changes_right
  g__law_changes_right : mg "_law_changes_right" = some (.ref f__law_changes_right)
  b__law_changes_right : Binds K fd__law_changes_right ["table", "n", "first", "second"] []
  f_law : Addr
  fd_law : FuncData
  F_law : Fun K "law" "law" (topS 29) f_law fd_law
  g_law : mg "law" = some (.ref f_law)
  b_law : Binds K fd_law ["script"] []
  z_all : mg "all" = none
  z_any : mg "any" = none
  z_bool : mg "bool" = none
  z_enumerate : mg "enumerate" = none
  z_int : mg "int" = none
  z_isinstance : mg "isinstance" = none
  z_len : mg "len" = none
  z_max : mg "max" = none
  z_min : mg "min" = none
  z_range : mg "range" = none
  z_set : mg "set" = none
  z_sorted : mg "sorted" = none
  z_str : mg "str" = none
  z_sum : mg "sum" = none
  z_tuple : mg "tuple" = none
  z_zip : mg "zip" = none
section
variable {P : Program} {w : World} {K : PySem.W.Frag} {mg : Str → Option Value} {base : Heap}
theorem sc_all_sets : FnScope ["n", "found", "index", "row"] ["n"] (defScope (topS 1)) := ⟨rfl, rfl, rfl, by decide +kernel, rfl, by decide +kernel, by decide +kernel⟩
theorem ok_all_sets (T : Tx K mg) : FnOk P w K mg base CX0 1 T.f_all_sets T.fd_all_sets ["n"] (spF K m_all_sets) :=
  fn_ok T.F_all_sets sc_all_sets (fun cdv A outer s H E hr => by
    have nd := sc_all_sets.nd
    have hu := hr.units
    have hu1 := un1 hr
    exact (s_cons (s_set 1 nd (toV (ofN (r_lstN (r_pcons (r_tup r_pnil) r_pnil)))))
    (s_cons (s_for PassesOwn.never rfl (i_rng3 rfl T.z_range (toB (r_bin op_sub d_sub (r_varB 0) (toB r_int))) (toB (r_neg (toB r_int))) (toB (r_neg (toB r_int)))) (g_n 2 nd) (s_one (s_set 1 nd (toV (r_bin op_addA d_add (toB (r_bin op_addA d_add (toB (ofN (r_lstN (r_pcons (r_tup r_pnil) r_pnil)))) (toB (ofN (r_lc (own := [("row", 3)]) rfl nd (i_seq (r_var 1)) (blkOk_by (by kernel_rfl)) (fun _ _ _ _ _ => (g_n 3 nd)) (fun _ _ _ _ _ => c_nil) (fun _ _ _ _ _ => (r_bin op_addA d_add (toB (r_tup (r_pcons (r_var 2) r_pnil))) (r_varB 3)))))))) (toB (ofN (r_lc (own := [("row", 3)]) rfl nd (i_seq (r_var 1)) (blkOk_by (by kernel_rfl)) (fun _ _ _ _ _ => (g_n 3 nd)) (fun _ _ _ _ _ => (c_one (r_tru (r_varB 3)))) (fun _ _ _ _ _ => (r_var 3))))))))))
    (s_one (s_ret (r_var 1))))))
theorem sc_size_key : FnScope ["row"] ["row"] (defScope (topS 2)) := ⟨rfl, rfl, rfl, by decide +kernel, rfl, by decide +kernel, by decide +kernel⟩
theorem ok_size_key (T : Tx K mg) : FnOk P w K mg base CX0 1 T.f_size_key T.fd_size_key ["row"] (spF K m_size_key) :=
  fn_ok T.F_size_key sc_size_key (fun cdv A outer s H E hr => by
    have nd := sc_size_key.nd
    have hu := hr.units
    have hu1 := un1 hr
    exact (s_one (s_ret (r_tup (r_pcons (r_callB call_len d_len rfl T.z_len (by decide +kernel) (r_bcons (r_varB 0) r_bnil)) (r_pcons (r_var 0) r_pnil))))))
theorem sc_mask_of : FnScope ["row", "place", "bit"] ["row"] (defScope (topS 4)) := ⟨rfl, rfl, rfl, by decide +kernel, rfl, by decide +kernel, by decide +kernel⟩
theorem ok_mask_of (T : Tx K mg) : FnOk P w K mg base CX0 1 T.f_mask_of T.fd_mask_of ["row"] (spF K m_mask_of) :=
  fn_ok T.F_mask_of sc_mask_of (fun cdv A outer s H E hr => by
    have nd := sc_mask_of.nd
    have hu := hr.units
    have hu1 := un1 hr
    exact (s_one (s_ret (r_callB (cr_sumA rfl) d_sumA rfl T.z_sum (by decide +kernel) (r_bcons (toB (ofN (r_lc (own := [("place", 1), ("bit", 2)]) rfl nd (i_enum rfl T.z_enumerate (r_var 0)) (blkOk_by (by kernel_rfl)) (fun _ _ _ _ _ => (g_t rfl (gs_c (g_n 1 nd) (gs_c (g_n 2 nd) gs_n)))) (fun _ _ _ _ _ => (c_one (r_tru (r_varB 2)))) (fun _ _ _ _ _ => (r_bin op_shl d_shl (toB r_int) (r_varB 1)))))) r_bnil)))))
theorem sc_parity_left : FnScope ["n", "sums", "heads", "row", "mask"] ["n", "sums"] (defScope (topS 5)) := ⟨rfl, rfl, rfl, by decide +kernel, rfl, by decide +kernel, by decide +kernel⟩
theorem ok_parity_left (T : Tx K mg) : FnOk P w K mg base CX0 2 T.f_parity_left T.fd_parity_left ["n", "sums"] (spF K m_parity_left) :=
  fn_ok T.F_parity_left sc_parity_left (fun cdv A outer s H E hr => by
    have nd := sc_parity_left.nd
    have hu := hr.units
    have hu1 := un1 hr
    exact (s_cons (s_set 2 nd (toO r_dnew))
    (s_cons (s_for PassesOwn.never rfl (i_seq (r_var 1)) (g_n 3 nd) (s_cons (s_set 4 nd (toV (r_call (ok_mask_of T) (hr.mono (by decide)) rfl T.g_mask_of T.F_mask_of.kp T.b_mask_of (r_pcons (r_var 3) r_pnil))))
    (s_cons (s_while 2000 PassesOwn.never (PW.pt (r_tand (r_tru (r_varB 4)) (r_tand1 (r_tcmp (op_inDic hu1) d_inD (toB (r_bits (r_varB 4))) (r_varB 2) (by with_unfolding_all rfl))))) (s_one (s_set 4 nd (toV (r_bin op_xor d_xor (r_varB 4) (toB (r_dget hu1 (r_varB 2) (toB (r_bits (r_varB 4))))))))))
    (s_one (s_if (r_tru (r_varB 4)) (s_one (s_put (ps_dput hu1 (pv 2) (toB (r_bits (r_varB 4))) (r_var 4) rfl))) s_nil)))))
    (s_one (s_ret (r_bin op_sub d_sub (r_varB 0) (toB (r_callB cr_lenD d_lenD rfl T.z_len (by decide +kernel) (r_bcons (r_varB 2) r_bnil)))))))))
theorem sc_parity_of : FnScope ["row", "bits", "one", "bit"] ["row", "bits"] (defScope (topS 6)) := ⟨rfl, rfl, rfl, by decide +kernel, rfl, by decide +kernel, by decide +kernel⟩
theorem ok_parity_of (T : Tx K mg) : FnOk P w K mg base CX0 1 T.f_parity_of T.fd_parity_of ["row", "bits"] (spF K m_parity_of) :=
  fn_ok T.F_parity_of sc_parity_of (fun cdv A outer s H E hr => by
    have nd := sc_parity_of.nd
    have hu := hr.units
    have hu1 := un1 hr
    exact (s_one (s_ret (r_bin op_mod d_mod (toB (r_callB (cr_sumA rfl) d_sumA rfl T.z_sum (by decide +kernel) (r_bcons (toB (ofN (r_lc (own := [("one", 2), ("bit", 3)]) rfl nd (i_zipC rfl T.z_zip (r_var 0) (r_var 1)) (blkOk_by (by kernel_rfl)) (fun _ _ _ _ _ => (g_t rfl (gs_c (g_n 2 nd) (gs_c (g_n 3 nd) gs_n)))) (fun _ _ _ _ _ => c_nil) (fun _ _ _ _ _ => (r_bin op_and d_and (r_varB 2) (r_varB 3)))))) r_bnil))) (toB r_int)))))
theorem sc_squeezed : FnScope ["table", "bits", "row"] ["table", "bits"] (defScope (topS 7)) := ⟨rfl, rfl, rfl, by decide +kernel, rfl, by decide +kernel, by decide +kernel⟩
theorem ok_squeezed (T : Tx K mg) : FnOk P w K mg base CX0 2 T.f_squeezed T.fd_squeezed ["table", "bits"] (spF K m_squeezed) :=
  fn_ok T.F_squeezed sc_squeezed (fun cdv A outer s H E hr => by
    have nd := sc_squeezed.nd
    have hu := hr.units
    have hu1 := un1 hr
    exact (s_one (s_ret (r_callT call_tuple_of d_tuple rfl T.z_tuple (by decide +kernel) (r_bcons (toB (ofN (r_lc (own := [("row", 2)]) rfl nd (i_seq (r_var 0)) (blkOk_by (by kernel_rfl)) (fun _ _ _ _ _ => (g_n 2 nd)) (fun _ _ _ _ _ => c_nil) (fun _ _ _ _ _ => (r_call (ok_parity_of T) (hr.mono (by decide)) rfl T.g_parity_of T.F_parity_of.kp T.b_parity_of (r_pcons (r_var 2) (r_pcons (r_var 1) r_pnil))))))) r_bnil)))))
theorem sc_settled_places : FnScope ["table", "message", "heads", "row", "bit", "mask", "other", "more", "settled", "length", "place"] ["table", "message"] (defScope (topS 8)) := ⟨rfl, rfl, rfl, by decide +kernel, rfl, by decide +kernel, by decide +kernel⟩
theorem ok_settled_places (T : Tx K mg) : FnOk P w K mg base CX0 2 T.f_settled_places T.fd_settled_places ["table", "message"] (spF K m_settled_places) :=
  fn_ok T.F_settled_places sc_settled_places (fun cdv A outer s H E hr => by
    have nd := sc_settled_places.nd
    have hu := hr.units
    have hu1 := un1 hr
    exact (s_cons (s_set 2 nd (toO r_dnew))
    (s_cons (s_for PassesOwn.never rfl (i_zipC rfl T.z_zip (r_var 0) (r_var 1)) (g_t rfl (gs_c (g_n 3 nd) (gs_c (g_n 4 nd) gs_n))) (s_cons (s_set 5 nd (toV (r_call (ok_mask_of T) (hr.mono (by decide)) rfl T.g_mask_of T.F_mask_of.kp T.b_mask_of (r_pcons (r_var 3) r_pnil))))
    (s_cons (s_while 2000 PassesOwn.never (PW.pt (r_tand (r_tru (r_varB 5)) (r_tand1 (r_tcmp (op_inDic hu1) d_inD (toB (r_bits (r_varB 5))) (r_varB 2) (by with_unfolding_all rfl))))) (s_cons (s_tg (r_dget hu1 (r_varB 2) (toB (r_bits (r_varB 5)))) (g_t rfl (gs_c (g_n 6 nd) (gs_c (g_n 7 nd) gs_n))))
    (s_cons (s_set 5 nd (toV (r_bin op_xor d_xor (r_varB 5) (r_varB 6))))
    (s_one (s_set 4 nd (toV (r_bin op_xor d_xor (r_varB 4) (r_varB 7))))))))
    (s_one (s_if (r_tru (r_varB 5)) (s_one (s_put (ps_dput hu1 (pv 2) (toB (r_bits (r_varB 5))) (r_tup (r_pcons (r_var 5) (r_pcons (r_var 4) r_pnil))) rfl))) (s_one (s_if (r_tru (r_varB 4)) (s_one (s_ret r_non)) s_nil)))))))
    (s_cons (s_set 8 nd (toO r_dnew))
    (s_cons (s_frz 2 (s_for PassesOwn.never rfl (i_items (r_var 2)) (g_t rfl (gs_c (g_n 9 nd) (gs_c (g_t rfl (gs_c (g_n 5 nd) (gs_c (g_n 4 nd) gs_n))) gs_n))) (s_one (s_put (ps_dput hu1 (pv 8) (toB (r_bin op_sub d_sub (r_varB 9) (toB r_int))) (r_tup (r_pcons (ofN (r_lc (own := [("place", 10)]) rfl nd (i_rng1 rfl T.z_range (toB (r_bin op_sub d_sub (r_varB 9) (toB r_int)))) (blkOk_by (by kernel_rfl)) (fun _ _ _ _ _ => (g_n 10 nd)) (fun _ _ _ _ _ => (c_one (r_tru (toB (r_bin op_and d_and (toB (r_bin op_shr d_shr (r_varB 5) (r_varB 10))) (toB r_int)))))) (fun _ _ _ _ _ => (r_var 10)))) (r_pcons (r_var 4) r_pnil))) rfl)))))
    (s_one (s_frz 8 (s_ret (r_var 8)))))))))
theorem sc_coset_words : FnScope ["table", "message", "settled", "rows", "place", "earlier", "bit", "row", "at"] ["table", "message"] (defScope (topS 9)) := ⟨rfl, rfl, rfl, by decide +kernel, rfl, by decide +kernel, by decide +kernel⟩
theorem ok_coset_words (T : Tx K mg) : FnOk P w K mg base CX0 3 T.f_coset_words T.fd_coset_words ["table", "message"] (spF K m_coset_words) :=
  fn_ok T.F_coset_words sc_coset_words (fun cdv A outer s H E hr => by
    have nd := sc_coset_words.nd
    have hu := hr.units
    have hu1 := un1 hr
    exact (s_cons (s_set 2 nd (toV (r_call (ok_settled_places T) (hr.mono (by decide)) rfl T.g_settled_places T.F_settled_places.kp T.b_settled_places (r_pcons (r_var 0) (r_pcons (r_var 1) r_pnil)))))
    (s_cons (s_if (r_tcmp op_isA d_is (r_varB 2) (toB r_non) (nomark _)) (s_one (s_ret (r_tup r_pnil))) s_nil)
    (s_cons (s_set 3 nd (toV (ofN (r_lstN (r_pcons (r_tup r_pnil) r_pnil)))))
    (s_cons (s_for PassesOwn.never rfl (i_rng1 rfl T.z_range (toB (r_ifx (r_tru (r_varB 0)) (r_callB call_len d_len rfl T.z_len (by decide +kernel) (r_bcons (toB (r_ix (r_varB 0) (toB r_int))) r_bnil)) r_int))) (g_n 4 nd) (s_one (s_if (r_tcmp (op_inDic hu1) d_inD (r_varB 4) (r_varB 2) (by with_unfolding_all rfl)) (s_cons (s_tg (r_dget hu1 (r_varB 2) (r_varB 4)) (g_t rfl (gs_c (g_n 5 nd) (gs_c (g_n 6 nd) gs_n))))
    (s_one (s_setF (s_setLc (own := [("row", 7)]) 3 rfl nd (i_seq (r_var 3)) (blkOk_by (by kernel_rfl)) (fun _ _ _ _ _ => (g_n 7 nd)) (fun _ _ _ _ _ => c_nil) (fun _ _ _ _ _ => (r_bin op_addA d_add (r_varB 7) (toB (r_tup (r_pcons (r_bin op_mod d_mod (toB (r_bin op_addA d_add (toB (r_callB (cr_sumA rfl) d_sumA rfl T.z_sum (by decide +kernel) (r_bcons (toB (ofN (r_lc (own := [("at", 8)]) rfl nd (i_seq (r_var 5)) (blkOk_by (by kernel_rfl)) (fun _ _ _ _ _ => (g_n 8 nd)) (fun _ _ _ _ _ => c_nil) (fun _ _ _ _ _ => (r_ix (r_varB 7) (r_varB 8)))))) r_bnil))) (r_varB 6))) (toB r_int)) r_pnil))))) (sw_true rfl rfl rfl (by decide +kernel)))))) (s_one (s_setF (s_setLc2 (own := [("row", 7), ("bit", 6)]) (vs1 := [6]) 3 rfl nd (i_seq (r_var 3)) (blkOk_by (by kernel_rfl)) (by decide) (fun _ _ _ _ _ => (g_n 7 nd)) (fun _ _ _ _ _ => c_nil) (fun _ _ _ _ _ => (i_seq (r_tup (r_pcons r_int (r_pcons r_int r_pnil))))) (fun _ _ _ _ _ => (g_n 6 nd)) (fun _ _ _ _ _ => c_nil) (fun _ _ _ _ _ => (r_bin op_addA d_add (r_varB 7) (toB (r_tup (r_pcons (r_var 6) r_pnil))))) (sw_true rfl rfl rfl (by decide +kernel))))))))
    (s_one (s_ret (r_callT call_tuple_of d_tuple rfl T.z_tuple (by decide +kernel) (r_bcons (r_varB 3) r_bnil)))))))))
theorem sc_lacks_of : FnScope ["table", "bits", "message", "row", "goal", "part", "bit"] ["table", "bits", "message"] (defScope (topS 11)) := ⟨rfl, rfl, rfl, by decide +kernel, rfl, by decide +kernel, by decide +kernel⟩
theorem ok_lacks_of (T : Tx K mg) : FnOk P w K mg base CX0 1 T.f_lacks_of T.fd_lacks_of ["table", "bits", "message"] (spF K m_lacks_of) :=
  fn_ok T.F_lacks_of sc_lacks_of (fun cdv A outer s H E hr => by
    have nd := sc_lacks_of.nd
    have hu := hr.units
    have hu1 := un1 hr
    exact (s_one (s_ret (r_callT call_tuple_of d_tuple rfl T.z_tuple (by decide +kernel) (r_bcons (toB (ofN (r_lc (own := [("row", 3), ("goal", 4)]) rfl nd (i_zipC rfl T.z_zip (r_var 0) (r_var 2)) (blkOk_by (by kernel_rfl)) (fun _ _ _ _ _ => (g_t rfl (gs_c (g_n 3 nd) (gs_c (g_n 4 nd) gs_n)))) (fun _ _ _ _ _ => c_nil) (fun _ _ _ _ _ => (r_bin op_mod d_mod (toB (r_bin op_addA d_add (toB (r_callB (cr_sumA rfl) d_sumA rfl T.z_sum (by decide +kernel) (r_bcons (toB (ofN (r_lc (own := [("part", 5), ("bit", 6)]) rfl nd (i_zipC rfl T.z_zip (r_var 3) (r_var 1)) (blkOk_by (by kernel_rfl)) (fun _ _ _ _ _ => (g_t rfl (gs_c (g_n 5 nd) (gs_c (g_n 6 nd) gs_n)))) (fun _ _ _ _ _ => c_nil) (fun _ _ _ _ _ => (r_bin op_mul d_mulI (r_varB 5) (r_varB 6)))))) r_bnil))) (r_varB 4))) (toB r_int)))))) r_bnil)))))
theorem sc_least_changes : FnScope ["table", "lacks", "places", "things", "chosen", "thing", "row", "lack", "place"] ["table", "lacks", "places"] (defScope (topS 12)) := ⟨rfl, rfl, rfl, by decide +kernel, rfl, by decide +kernel, by decide +kernel⟩
theorem ok_least_changes (T : Tx K mg) : FnOk P w K mg base CX0 3 T.f_least_changes T.fd_least_changes ["table", "lacks", "places"] (spF K m_least_changes) :=
  fn_ok T.F_least_changes sc_least_changes (fun cdv A outer s H E hr => by
    have nd := sc_least_changes.nd
    have hu := hr.units
    have hu1 := un1 hr
    exact (s_cons (s_for PassesOwn.never rfl (i_seq (ofN (r_sortKey (ok_size_key T) (hr.mono (by decide)) T.b_size_key rfl T.z_sorted rfl T.g_size_key (toB (r_call (ok_all_sets T) (hr.mono (by decide)) rfl T.g_all_sets T.F_all_sets.kp T.b_all_sets (r_pcons (r_callB call_len d_len rfl T.z_len (by decide +kernel) (r_bcons (r_varB 2) r_bnil)) r_pnil)))))) (g_n 3 nd) (s_cons (s_set 4 nd (toV (ofN (r_lc (own := [("thing", 5)]) rfl nd (i_seq (r_var 3)) (blkOk_by (by kernel_rfl)) (fun _ _ _ _ _ => (g_n 5 nd)) (fun _ _ _ _ _ => c_nil) (fun _ _ _ _ _ => (r_ix (r_varB 2) (r_varB 5)))))))
    (s_one (s_if (r_tru (toB (r_callB (cr_all rfl) d_all rfl T.z_all (by decide +kernel) (r_bcons (toB (ofN (r_lc (own := [("row", 6), ("lack", 7)]) rfl nd (i_zipC rfl T.z_zip (r_var 0) (r_var 1)) (blkOk_by (by kernel_rfl)) (fun _ _ _ _ _ => (g_t rfl (gs_c (g_n 6 nd) (gs_c (g_n 7 nd) gs_n)))) (fun _ _ _ _ _ => c_nil) (fun _ _ _ _ _ => (r_cmp (op_eqD hu) d_eq (toB (r_bin op_mod d_mod (toB (r_callB (cr_sumA rfl) d_sumA rfl T.z_sum (by decide +kernel) (r_bcons (toB (ofN (r_lc (own := [("place", 8)]) rfl nd (i_seq (r_var 4)) (blkOk_by (by kernel_rfl)) (fun _ _ _ _ _ => (g_n 8 nd)) (fun _ _ _ _ _ => c_nil) (fun _ _ _ _ _ => (r_ix (r_varB 6) (r_varB 8)))))) r_bnil))) (toB r_int))) (r_varB 7) (nomark _)))))) r_bnil)))) (s_one (s_ret (r_callT call_tuple_of d_tuple rfl T.z_tuple (by decide +kernel) (r_bcons (r_varB 4) r_bnil)))) s_nil))))
    (s_one (s_ret r_non))))
theorem sc_changes_needed : FnScope ["table", "bits", "message", "places"] ["table", "bits", "message"] (defScope (topS 13)) := ⟨rfl, rfl, rfl, by decide +kernel, rfl, by decide +kernel, by decide +kernel⟩
theorem ok_changes_needed (T : Tx K mg) : FnOk P w K mg base CX0 4 T.f_changes_needed T.fd_changes_needed ["table", "bits", "message"] (spF K m_changes_needed) :=
  fn_ok T.F_changes_needed sc_changes_needed (fun cdv A outer s H E hr => by
    have nd := sc_changes_needed.nd
    have hu := hr.units
    have hu1 := un1 hr
    exact (s_cons (s_set 3 nd (toV (r_call (ok_least_changes T) (hr.mono (by decide)) rfl T.g_least_changes T.F_least_changes.kp T.b_least_changes (r_pcons (r_var 0) (r_pcons (r_call (ok_lacks_of T) (hr.mono (by decide)) rfl T.g_lacks_of T.F_lacks_of.kp T.b_lacks_of (r_pcons (r_var 0) (r_pcons (r_var 1) (r_pcons (r_var 2) r_pnil)))) (r_pcons (r_tupR rfl rfl T.z_tuple (r_rg1 rfl T.z_range (toB (r_callB call_len d_len rfl T.z_len (by decide +kernel) (r_bcons (r_varB 1) r_bnil))))) r_pnil))))))
    (s_one (s_ret (r_ifx (r_tcmp op_isA d_is (r_varB 3) (toB r_non) (nomark _)) r_non (r_tup (r_pcons (r_callB call_len d_len rfl T.z_len (by decide +kernel) (r_bcons (r_varB 3) r_bnil)) (r_pcons (r_var 3) r_pnil))))))))
theorem sc__law_mixed : FnScope ["script", "k", "cell", "first", "second", "third"] ["script", "k"] (defScope (topS 15)) := ⟨rfl, rfl, rfl, by decide +kernel, rfl, by decide +kernel, by decide +kernel⟩
theorem ok__law_mixed (T : Tx K mg) : FnOk P w K mg base CX0 1 T.f__law_mixed T.fd__law_mixed ["script", "k"] (spF K m__law_mixed) :=
  fn_ok T.F__law_mixed sc__law_mixed (fun cdv A outer s H E hr => by
    have nd := sc__law_mixed.nd
    have hu := hr.units
    have hu1 := un1 hr
    exact (s_cons (s_set 2 nd (toV r_int))
    (s_cons (s_if (r_tcmp op_gt d_gt (toB (r_callB call_len d_len rfl T.z_len (by decide +kernel) (r_bcons (r_varB 0) r_bnil))) (toB r_int) (nomark _)) (s_one (s_set 2 nd (toV (r_ix (r_varB 0) (toB (r_bin op_mod d_mod (r_varB 1) (toB (r_callB call_len d_len rfl T.z_len (by decide +kernel) (r_bcons (r_varB 0) r_bnil))))))))) s_nil)
    (s_cons (s_set 3 nd (toV (r_bin op_mod d_mod (toB (r_callT call_int1 d_int1 rfl T.z_int (by decide +kernel) (r_bcons (toB (r_bin op_addA d_add (toB (r_bin op_addA d_add (toB (r_bin op_mul d_mulI (r_varB 2) (toB r_int))) (toB (r_bin op_mul d_mulI (r_varB 1) (toB r_int))))) (toB r_int))) r_bnil))) (toB r_int))))
    (s_cons (s_set 4 nd (toV (r_bin op_mod d_mod (toB (r_callT call_int1 d_int1 rfl T.z_int (by decide +kernel) (r_bcons (toB (r_bin op_addA d_add (toB (r_bin op_addA d_add (toB (r_bin op_mul d_mulI (r_varB 3) (r_varB 3))) (toB (r_bin op_fdiv d_div (r_varB 3) (toB r_int))))) (toB (r_bin op_mul d_mulI (r_varB 1) (toB r_int))))) r_bnil))) (toB r_int))))
    (s_cons (s_set 5 nd (toV (r_bin op_mod d_mod (toB (r_callT call_int1 d_int1 rfl T.z_int (by decide +kernel) (r_bcons (toB (r_bin op_addA d_add (toB (r_bin op_addA d_add (toB (r_bin op_mul d_mulI (r_varB 4) (r_varB 4))) (toB (r_bin op_fdiv d_div (r_varB 4) (toB r_int))))) (toB r_int))) r_bnil))) (toB r_int))))
    (s_one (s_ret (r_bin op_mod d_mod (toB (r_bin op_fdiv d_div (r_varB 5) (toB r_int))) (toB r_int))))))))))
theorem sc__law_row : FnScope ["script", "many", "big", "row", "k"] ["script", "many"] (defScope (topS 16)) := ⟨rfl, rfl, rfl, by decide +kernel, rfl, by decide +kernel, by decide +kernel⟩
theorem ok__law_row (T : Tx K mg) : FnOk P w K mg base CX0 2 T.f__law_row T.fd__law_row ["script", "many"] (spF K m__law_row) :=
  fn_ok T.F__law_row sc__law_row (fun cdv A outer s H E hr => by
    have nd := sc__law_row.nd
    have hu := hr.units
    have hu1 := un1 hr
    exact (s_cons (s_set 2 nd (toV r_int))
    (s_cons (s_if (PW.pt (r_tand (r_tcmp op_gt d_gt (toB (r_callB call_len d_len rfl T.z_len (by decide +kernel) (r_bcons (r_varB 0) r_bnil))) (toB r_int) (nomark _)) (r_tand1 (r_tcmp op_ge d_ge (toB (r_ix (r_varB 0) (toB r_int))) (toB (r_bin op_pow d_pow (toB r_int) (toB r_int))) (nomark _))))) (s_one (s_set 2 nd (toV (r_ix (r_varB 0) (toB r_int))))) s_nil)
    (s_cons (s_set 3 nd (toO (r_lstN r_pnil)))
    (s_cons (s_for PassesOwn.never rfl (i_rng1 rfl T.z_range (r_varB 1)) (g_n 4 nd) (s_one (s_if (r_tcmp op_gt d_gt (r_varB 2) (toB r_int) (nomark _)) (s_cons (s_app (ps_expr (pe_bm PySem.F.plainAttrs_list PySem.F.slot_list_append PySem.F.type_list_append mt_append (pv 3) (pa_cons (r_bin op_mod d_mod (toB (r_callT call_int1 d_int1 rfl T.z_int (by decide +kernel) (r_bcons (r_varB 2) r_bnil))) (toB r_int)) pa_nil))))
    (s_one (s_set 2 nd (toV (r_bin op_fdiv d_div (r_varB 2) (toB r_int)))))) (s_one (s_app (ps_expr (pe_bm PySem.F.plainAttrs_list PySem.F.slot_list_append PySem.F.type_list_append mt_append (pv 3) (pa_cons (r_call (ok__law_mixed T) (hr.mono (by decide)) rfl T.g__law_mixed T.F__law_mixed.kp T.b__law_mixed (r_pcons (r_var 0) (r_pcons (r_var 4) r_pnil))) pa_nil))))))))
    (s_one (s_frz 3 (s_ret (r_var 3)))))))))
theorem sc__law_is_int : FnScope ["value"] ["value"] (defScope (topS 17)) := ⟨rfl, rfl, rfl, by decide +kernel, rfl, by decide +kernel, by decide +kernel⟩
theorem ok__law_is_int (T : Tx K mg) : FnOk P w K mg base CX0 1 T.f__law_is_int T.fd__law_is_int ["value"] (spF K m__law_is_int) :=
  fn_ok T.F__law_is_int sc__law_is_int (fun cdv A outer s H E hr => by
    have nd := sc__law_is_int.nd
    have hu := hr.units
    have hu1 := un1 hr
    exact (s_one (s_ret (r_and (r_isi .int (r_varB 0) rfl T.z_isinstance rfl T.z_int (by decide +kernel)) (r_one (r_not (toB (r_isi .bool (r_varB 0) rfl T.z_isinstance rfl T.z_bool (by decide +kernel)))))))))
theorem sc__law_like : FnScope ["value", "due", "k"] ["value", "due"] (defScope (topS 18)) := ⟨rfl, rfl, rfl, by decide +kernel, rfl, by decide +kernel, by decide +kernel⟩
theorem ok__law_like (T : Tx K mg) : ∀ n : Nat, FnOk P w K mg base CX0 (2 + n) T.f__law_like T.fd__law_like ["value", "due"] (spF K (m__law_like n))
  | 0 => never_ok
  | n + 1 => by
    have ih : FnOk P w K mg base CX0 (2 + n) T.f__law_like T.fd__law_like ["value", "due"] (spF K (m__law_like n)) := ok__law_like T n
    refine fn_ok (k := 2 + n) T.F__law_like sc__law_like ?_
    exact fun cdv A outer s H E hr => by
      have nd := sc__law_like.nd
      have hu := hr.units
      have hu1 := un1 hr
      exact (s_cons (s_if (r_tcmp op_isA d_is (r_varB 1) (toB r_non) (nomark _)) (s_one (s_ret (r_cmp op_isA d_is (r_varB 0) (toB r_non) (nomark _)))) s_nil)
      (s_cons (s_if (r_tru (toB (r_isi .bool (r_varB 1) rfl T.z_isinstance rfl T.z_bool (by decide +kernel)))) (s_one (s_ret (r_and (r_isi .bool (r_varB 0) rfl T.z_isinstance rfl T.z_bool (by decide +kernel)) (r_one (r_cmp (op_eqD hu) d_eq (r_varB 0) (r_varB 1) (nomark _)))))) s_nil)
      (s_cons (s_if (r_tru (toB (r_isi .tuple (r_varB 1) rfl T.z_isinstance rfl T.z_tuple (by decide +kernel)))) (s_cons (s_if (PW.pt (r_tor (r_tnot (r_tru (toB (r_isi .tuple (r_varB 0) rfl T.z_isinstance rfl T.z_tuple (by decide +kernel))))) (r_tor1 (r_tcmp (op_neD hu) d_ne (toB (r_callB call_len d_len rfl T.z_len (by decide +kernel) (r_bcons (r_varB 0) r_bnil))) (toB (r_callB call_len d_len rfl T.z_len (by decide +kernel) (r_bcons (r_varB 1) r_bnil))) (nomark _))))) (s_one (s_ret r_bl)) s_nil)
      (s_one (s_ret (r_callB (cr_all rfl) d_all rfl T.z_all (by decide +kernel) (r_bcons (toB (ofN (r_lc (own := [("k", 2)]) rfl nd (i_rng1 rfl T.z_range (toB (r_callB call_len d_len rfl T.z_len (by decide +kernel) (r_bcons (r_varB 1) r_bnil)))) (blkOk_by (by kernel_rfl)) (fun _ _ _ _ _ => (g_n 2 nd)) (fun _ _ _ _ _ => c_nil) (fun _ _ _ _ _ => (r_call ih (hr.mono (by omega)) rfl T.g__law_like T.F__law_like.kp T.b__law_like (r_pcons (r_ix (r_varB 0) (r_varB 2)) (r_pcons (r_ix (r_varB 1) (r_varB 2)) r_pnil))))))) r_bnil))))) s_nil)
      (s_cons (s_if (r_tru (toB (r_isi .str (r_varB 1) rfl T.z_isinstance rfl T.z_str (by decide +kernel)))) (s_one (s_ret (r_and (r_isi .str (r_varB 0) rfl T.z_isinstance rfl T.z_str (by decide +kernel)) (r_one (r_cmp (op_eqD hu) d_eq (r_varB 0) (r_varB 1) (nomark _)))))) s_nil)
      (s_one (s_ret (r_and (r_call (ok__law_is_int T) (hr.mono (by omega)) rfl T.g__law_is_int T.F__law_is_int.kp T.b__law_is_int (r_pcons (r_var 0) r_pnil)) (r_one (r_cmp (op_eqD hu) d_eq (r_varB 0) (r_varB 1) (nomark _))))))))))
theorem sc__law_bits : FnScope ["count", "rows", "k", "grown", "row"] ["count"] (defScope (topS 19)) := ⟨rfl, rfl, rfl, by decide +kernel, rfl, by decide +kernel, by decide +kernel⟩
theorem ok__law_bits (T : Tx K mg) : FnOk P w K mg base CX0 1 T.f__law_bits T.fd__law_bits ["count"] (spF K m__law_bits) :=
  fn_ok T.F__law_bits sc__law_bits (fun cdv A outer s H E hr => by
    have nd := sc__law_bits.nd
    have hu := hr.units
    have hu1 := un1 hr
    exact (s_cons (s_set 1 nd (toV (ofN (r_lstN (r_pcons (r_tup r_pnil) r_pnil)))))
    (s_cons (s_for PassesOwn.never rfl (i_rng1 rfl T.z_range (r_varB 0)) (g_n 2 nd) (s_cons (s_set 3 nd (toO (r_lstN r_pnil)))
    (s_cons (s_for PassesOwn.never rfl (i_seq (r_var 1)) (g_n 4 nd) (s_one (s_ext (ps_expr (pe_bm PySem.F.plainAttrs_list PySem.F.slot_list_extend PySem.F.type_list_extend mt_extend (pv 3) (pa_cons (toB (ofN (r_lstN (r_pcons (r_bin op_addA d_add (r_varB 4) (toB (r_tup (r_pcons r_int r_pnil)))) (r_pcons (r_bin op_addA d_add (r_varB 4) (toB (r_tup (r_pcons r_int r_pnil)))) r_pnil))))) pa_nil))))))
    (s_one (s_frz 3 (s_set 1 nd (toV (r_var 3))))))))
    (s_one (s_ret (r_var 1))))))
theorem sc__law_choose : FnScope ["n", "k", "found", "place"] ["n", "k"] (defScope (topS 20)) := ⟨rfl, rfl, rfl, by decide +kernel, rfl, by decide +kernel, by decide +kernel⟩
theorem ok__law_choose (T : Tx K mg) : FnOk P w K mg base CX0 1 T.f__law_choose T.fd__law_choose ["n", "k"] (spF K m__law_choose) :=
  fn_ok T.F__law_choose sc__law_choose (fun cdv A outer s H E hr => by
    have nd := sc__law_choose.nd
    have hu := hr.units
    have hu1 := un1 hr
    exact (s_cons (s_set 2 nd (toV r_int))
    (s_cons (s_for PassesOwn.never rfl (i_rng1 rfl T.z_range (r_varB 1)) (g_n 3 nd) (s_one (s_set 2 nd (toV (r_bin op_fdiv d_div (toB (r_bin op_mul d_mulI (r_varB 2) (toB (r_callB (call_max2 rfl) d_max2 rfl T.z_max (by decide +kernel) (r_bcons (toB r_int) (r_bcons (toB (r_bin op_sub d_sub (r_varB 0) (r_varB 3))) r_bnil)))))) (toB (r_bin op_addA d_add (r_varB 3) (toB r_int))))))))
    (s_one (s_ret (r_var 2))))))
theorem sc__law_sum : FnScope ["first", "second", "k"] ["first", "second"] (defScope (topS 21)) := ⟨rfl, rfl, rfl, by decide +kernel, rfl, by decide +kernel, by decide +kernel⟩
theorem ok__law_sum (T : Tx K mg) : FnOk P w K mg base CX0 1 T.f__law_sum T.fd__law_sum ["first", "second"] (spF K m__law_sum) :=
  fn_ok T.F__law_sum sc__law_sum (fun cdv A outer s H E hr => by
    have nd := sc__law_sum.nd
    have hu := hr.units
    have hu1 := un1 hr
    exact (s_one (s_ret (r_callT call_tuple_of d_tuple rfl T.z_tuple (by decide +kernel) (r_bcons (toB (ofN (r_lc (own := [("k", 2)]) rfl nd (i_rng1 rfl T.z_range (toB (r_callB call_len d_len rfl T.z_len (by decide +kernel) (r_bcons (r_varB 0) r_bnil)))) (blkOk_by (by kernel_rfl)) (fun _ _ _ _ _ => (g_n 2 nd)) (fun _ _ _ _ _ => c_nil) (fun _ _ _ _ _ => (r_bin op_xor d_xor (toB (r_ix (r_varB 0) (r_varB 2))) (toB (r_ix (r_varB 1) (r_varB 2)))))))) r_bnil)))))
theorem sc__law_even : FnScope ["first", "second", "k"] ["first", "second"] (defScope (topS 22)) := ⟨rfl, rfl, rfl, by decide +kernel, rfl, by decide +kernel, by decide +kernel⟩
theorem ok__law_even (T : Tx K mg) : FnOk P w K mg base CX0 1 T.f__law_even T.fd__law_even ["first", "second"] (spF K m__law_even) :=
  fn_ok T.F__law_even sc__law_even (fun cdv A outer s H E hr => by
    have nd := sc__law_even.nd
    have hu := hr.units
    have hu1 := un1 hr
    exact (s_one (s_ret (r_bin op_mod d_mod (toB (r_callT call_int1 d_int1 rfl T.z_int (by decide +kernel) (r_bcons (toB (r_callB (cr_sumA rfl) d_sumA rfl T.z_sum (by decide +kernel) (r_bcons (toB (ofN (r_lc (own := [("k", 2)]) rfl nd (i_rng1 rfl T.z_range (toB (r_callB call_len d_len rfl T.z_len (by decide +kernel) (r_bcons (r_varB 0) r_bnil)))) (blkOk_by (by kernel_rfl)) (fun _ _ _ _ _ => (g_n 2 nd)) (fun _ _ _ _ _ => c_nil) (fun _ _ _ _ _ => (r_bin op_mul d_mulI (toB (r_ix (r_varB 0) (r_varB 2))) (toB (r_ix (r_varB 1) (r_varB 2)))))))) r_bnil))) r_bnil))) (toB r_int)))))
theorem sc__law_table : FnScope ["row", "n", "count", "table", "k", "j"] ["row"] (defScope (topS 23)) := ⟨rfl, rfl, rfl, by decide +kernel, rfl, by decide +kernel, by decide +kernel⟩
theorem ok__law_table (T : Tx K mg) : FnOk P w K mg base CX0 2 T.f__law_table T.fd__law_table ["row"] (spF K m__law_table) :=
  fn_ok T.F__law_table sc__law_table (fun cdv A outer s H E hr => by
    have nd := sc__law_table.nd
    have hu := hr.units
    have hu1 := un1 hr
    exact (s_cons (s_par3 1 2 3 rfl nd (toV (r_bin op_addA d_add (toB r_int) (toB (r_bin op_mod d_mod (toB (r_callT call_int1 d_int1 rfl T.z_int (by decide +kernel) (r_bcons (toB (r_ix (r_varB 0) (toB r_int))) r_bnil))) (toB r_int))))) (toV (r_bin op_addA d_add (toB r_int) (toB (r_bin op_mod d_mod (toB (r_callT call_int1 d_int1 rfl T.z_int (by decide +kernel) (r_bcons (toB (r_ix (r_varB 0) (toB r_int))) r_bnil))) (toB r_int))))) (toO (r_lstN r_pnil)) (by rfl))
    (s_cons (s_for PassesOwn.never rfl (i_rng1 rfl T.z_range (r_varB 2)) (g_n 4 nd) (s_one (s_app (ps_expr (pe_bm PySem.F.plainAttrs_list PySem.F.slot_list_append PySem.F.type_list_append mt_append (pv 3) (pa_cons (r_callT call_tuple_of d_tuple rfl T.z_tuple (by decide +kernel) (r_bcons (toB (ofN (r_lc (own := [("j", 5)]) rfl nd (i_rng1 rfl T.z_range (r_varB 1)) (blkOk_by (by kernel_rfl)) (fun _ _ _ _ _ => (g_n 5 nd)) (fun _ _ _ _ _ => c_nil) (fun _ _ _ _ _ => (r_bin op_mod d_mod (toB (r_callT call_int1 d_int1 rfl T.z_int (by decide +kernel) (r_bcons (toB (r_ix (r_varB 0) (toB (r_bin op_addA d_add (toB (r_bin op_addA d_add (toB r_int) (toB (r_bin op_mul d_mulI (toB r_int) (r_varB 4))))) (r_varB 5))))) r_bnil))) (toB r_int)))))) r_bnil)) pa_nil))))))
    (s_cons (s_if (PW.pt (r_tand (r_tcmp (op_eqD hu) d_eq (r_varB 2) (toB r_int) (nomark _)) (r_tand1 (r_tcmp (op_eqD hu) d_eq (toB (r_bin op_mod d_mod (toB (r_callT call_int1 d_int1 rfl T.z_int (by decide +kernel) (r_bcons (toB (r_ix (r_varB 0) (toB r_int))) r_bnil))) (toB r_int))) (toB r_int) (nomark _))))) (s_one (s_setIx (ps_asg (r_call (ok__law_sum T) (hr.mono (by decide)) rfl T.g__law_sum T.F__law_sum.kp T.b__law_sum (r_pcons (r_ix (r_varB 3) (toB r_int)) (r_pcons (r_ix (r_varB 3) (toB r_int)) r_pnil))) (pg_sub (pv 3) (toB r_int) set_list)))) s_nil)
    (s_one (s_ret (r_callT call_tuple_of d_tuple rfl T.z_tuple (by decide +kernel) (r_bcons (r_varB 3) r_bnil))))))))
theorem sc__law_made : FnScope ["table", "n", "pairs", "part", "row", "k"] ["table", "n"] (defScope (topS 24)) := ⟨rfl, rfl, rfl, by decide +kernel, rfl, by decide +kernel, by decide +kernel⟩
theorem ok__law_made (T : Tx K mg) : FnOk P w K mg base CX0 2 T.f__law_made T.fd__law_made ["table", "n"] (spF K m__law_made) :=
  fn_ok T.F__law_made sc__law_made (fun cdv A outer s H E hr => by
    have nd := sc__law_made.nd
    have hu := hr.units
    have hu1 := un1 hr
    exact (s_cons (s_set 2 nd (toO (r_lstN r_pnil)))
    (s_cons (s_for PassesOwn.never rfl (i_seq (r_call (ok__law_bits T) (hr.mono (by decide)) rfl T.g__law_bits T.F__law_bits.kp T.b__law_bits (r_pcons (r_callB call_len d_len rfl T.z_len (by decide +kernel) (r_bcons (r_varB 0) r_bnil)) r_pnil))) (g_n 3 nd) (s_cons (s_set 4 nd (toV (r_callT call_tuple_of d_tuple rfl T.z_tuple (by decide +kernel) (r_bcons (toB (ofN (r_binN op_rep d_repL (toB (ofN (r_lstN (r_pcons r_int r_pnil)))) (r_varB 1)))) r_bnil))))
    (s_cons (s_for PassesOwn.never rfl (i_rng1 rfl T.z_range (toB (r_callB call_len d_len rfl T.z_len (by decide +kernel) (r_bcons (r_varB 0) r_bnil)))) (g_n 5 nd) (s_one (s_if (r_tcmp (op_eqD hu) d_eq (toB (r_ix (r_varB 3) (r_varB 5))) (toB r_int) (nomark _)) (s_one (s_set 4 nd (toV (r_call (ok__law_sum T) (hr.mono (by decide)) rfl T.g__law_sum T.F__law_sum.kp T.b__law_sum (r_pcons (r_var 4) (r_pcons (r_ix (r_varB 0) (r_varB 5)) r_pnil)))))) s_nil)))
    (s_one (s_app (ps_expr (pe_bm PySem.F.plainAttrs_list PySem.F.slot_list_append PySem.F.type_list_append mt_append (pv 2) (pa_cons (r_tup (r_pcons (r_var 3) (r_pcons (r_var 4) r_pnil))) pa_nil))))))))
    (s_one (s_frz 2 (s_ret (r_var 2)))))))
theorem sc__law_weight : FnScope ["row", "j", "ones", "found", "k", "step"] ["row", "j"] (defScope (topS 25)) := ⟨rfl, rfl, rfl, by decide +kernel, rfl, by decide +kernel, by decide +kernel⟩
theorem ok__law_weight (T : Tx K mg) : FnOk P w K mg base CX0 2 T.f__law_weight T.fd__law_weight ["row", "j"] (spF K m__law_weight) :=
  fn_ok T.F__law_weight sc__law_weight (fun cdv A outer s H E hr => by
    have nd := sc__law_weight.nd
    have hu := hr.units
    have hu1 := un1 hr
    exact (s_cons (s_par 2 3 rfl nd (toV (r_callB (cr_sumA rfl) d_sumA rfl T.z_sum (by decide +kernel) (r_bcons (r_varB 0) r_bnil))) (toV r_int) (by rfl))
    (s_cons (s_for PassesOwn.never rfl (i_rng1 rfl T.z_range (toB (r_bin op_addA d_add (r_varB 1) (toB r_int)))) (g_n 4 nd) (s_cons (s_set 5 nd (toV (r_bin op_mul d_mulI (toB (r_call (ok__law_choose T) (hr.mono (by decide)) rfl T.g__law_choose T.F__law_choose.kp T.b__law_choose (r_pcons (r_var 2) (r_pcons (r_var 4) r_pnil)))) (toB (r_call (ok__law_choose T) (hr.mono (by decide)) rfl T.g__law_choose T.F__law_choose.kp T.b__law_choose (r_pcons (r_bin op_sub d_sub (toB (r_callB call_len d_len rfl T.z_len (by decide +kernel) (r_bcons (r_varB 0) r_bnil))) (r_varB 2)) (r_pcons (r_bin op_sub d_sub (r_varB 1) (r_varB 4)) r_pnil)))))))
    (s_one (s_set 3 nd (toV (r_bin op_addA d_add (r_varB 3) (toB (r_bin op_mul d_mulI (r_varB 5) (toB (r_ix (toB (r_tup (r_pcons r_int (r_pcons (r_neg (toB r_int)) r_pnil)))) (toB (r_bin op_mod d_mod (toB (r_callT call_int1 d_int1 rfl T.z_int (by decide +kernel) (r_bcons (r_varB 4) r_bnil))) (toB r_int)))))))))))))
    (s_one (s_ret (r_var 3))))))
theorem sc__law_space_right : FnScope ["table", "n", "made", "nothing", "free", "size", "space", "own", "k", "sums", "row", "part", "line"] ["table", "n", "made"] (defScope (topS 26)) := ⟨rfl, rfl, rfl, by decide +kernel, rfl, by decide +kernel, by decide +kernel⟩
theorem ok__law_space_right (T : Tx K mg) : FnOk P w K mg base CX0 13 T.f__law_space_right T.fd__law_space_right ["table", "n", "made"] (spF K m__law_space_right) :=
  fn_ok T.F__law_space_right sc__law_space_right (fun cdv A outer s H E hr => by
    have nd := sc__law_space_right.nd
    have hu := hr.units
    have hu1 := un1 hr
    exact (s_cons (s_par3 3 4 5 rfl nd (toV (r_callT call_tuple_of d_tuple rfl T.z_tuple (by decide +kernel) (r_bcons (toB (ofN (r_lc (own := [("row", 10)]) rfl nd (i_seq (r_var 0)) (blkOk_by (by kernel_rfl)) (fun _ _ _ _ _ => (g_n 10 nd)) (fun _ _ _ _ _ => c_nil) (fun _ _ _ _ _ => r_int)))) r_bnil))) (toV (r_call (ok_parity_left T) (hr.mono (by decide)) rfl T.g_parity_left T.F_parity_left.kp T.b_parity_left (r_pcons (r_var 1) (r_pcons (r_var 0) r_pnil)))) (toV r_int) (by rfl))
    (s_cons (s_set 6 nd (toV (r_call (ok_coset_words T) (hr.mono (by decide)) rfl T.g_coset_words T.F_coset_words.kp T.b_coset_words (r_pcons (r_var 0) (r_pcons (r_var 3) r_pnil)))))
    (s_cons (s_setF (s_setLc (own := [("row", 10)]) 7 rfl nd (i_seq (r_call (ok__law_bits T) (hr.mono (by decide)) rfl T.g__law_bits T.F__law_bits.kp T.b__law_bits (r_pcons (r_var 1) r_pnil))) (blkOk_by (by kernel_rfl)) (fun _ _ _ _ _ => (g_n 10 nd)) (fun _ _ _ _ _ => (c_one (r_tnot (r_tru (toB (r_callB (cr_anyA rfl) d_anyA rfl T.z_any (by decide +kernel) (r_bcons (toB (ofN (r_lc (own := [("line", 12)]) rfl nd (i_seq (r_var 0)) (blkOk_by (by kernel_rfl)) (fun _ _ _ _ _ => (g_n 12 nd)) (fun _ _ _ _ _ => c_nil) (fun _ _ _ _ _ => (r_cmp (op_eqD hu) d_eq (toB (r_call (ok__law_even T) (hr.mono (by decide)) rfl T.g__law_even T.F__law_even.kp T.b__law_even (r_pcons (r_var 10) (r_pcons (r_var 12) r_pnil)))) (toB r_int) (nomark _)))))) r_bnil))))))) (fun _ _ _ _ _ => (r_var 10)) (sw_true rfl rfl rfl (by decide +kernel))))
    (s_cons (s_if (PW.pt (r_tor (r_tnot (r_tru (toB (r_call (ok__law_like T 10) (hr.mono (by decide)) rfl T.g__law_like T.F__law_like.kp T.b__law_like (r_pcons (r_var 6) (r_pcons (r_callT call_tuple_of d_tuple rfl T.z_tuple (by decide +kernel) (r_bcons (r_varB 7) r_bnil)) r_pnil)))))) (r_tor (r_tnot (r_tru (toB (r_call (ok__law_is_int T) (hr.mono (by decide)) rfl T.g__law_is_int T.F__law_is_int.kp T.b__law_is_int (r_pcons (r_var 4) r_pnil))))) (r_tor (r_tcmp op_lt d_lt (r_varB 4) (toB r_int) (nomark _)) (r_tor1 (r_tcmp op_gt d_gt (r_varB 4) (r_varB 1) (nomark _))))))) (s_one (s_ret r_bl)) s_nil)
    (s_cons (s_for PassesOwn.never rfl (i_rng1 rfl T.z_range (r_varB 4)) (g_n 8 nd) (s_one (s_set 5 nd (toV (r_bin op_mul d_mulI (toB r_int) (r_varB 5))))))
    (s_cons (s_if (r_tcmp (op_neD hu) d_ne (r_varB 5) (toB (r_callB call_len d_len rfl T.z_len (by decide +kernel) (r_bcons (r_varB 6) r_bnil))) (nomark _)) (s_one (s_ret r_bl)) s_nil)
    (s_cons (s_set 9 nd (toV (ofN (r_sortSetT rfl hu rfl T.z_sorted rfl T.z_set (toB (ofN (r_lc (own := [("part", 11), ("row", 10)]) rfl nd (i_seq (r_var 2)) (blkOk_by (by kernel_rfl)) (fun _ _ _ _ _ => (g_t rfl (gs_c (g_n 11 nd) (gs_c (g_n 10 nd) gs_n)))) (fun _ _ _ _ _ => c_nil) (fun _ _ _ _ _ => (r_var 10)))))))))
    (s_cons (s_if (r_tnot (r_tru (toB (r_call (ok__law_like T 10) (hr.mono (by decide)) rfl T.g__law_like T.F__law_like.kp T.b__law_like (r_pcons (r_call (ok_coset_words T) (hr.mono (by decide)) rfl T.g_coset_words T.F_coset_words.kp T.b_coset_words (r_pcons (r_var 6) (r_pcons (r_callT call_tuple_of d_tuple rfl T.z_tuple (by decide +kernel) (r_bcons (toB (ofN (r_lc (own := [("row", 10)]) rfl nd (i_seq (r_var 6)) (blkOk_by (by kernel_rfl)) (fun _ _ _ _ _ => (g_n 10 nd)) (fun _ _ _ _ _ => c_nil) (fun _ _ _ _ _ => r_int)))) r_bnil)) r_pnil))) (r_pcons (r_callT call_tuple_of d_tuple rfl T.z_tuple (by decide +kernel) (r_bcons (r_varB 9) r_bnil)) r_pnil)))))) (s_one (s_ret r_bl)) s_nil)
    (s_one (s_ret (r_and (r_cmp (op_eqD hu) d_eq (toB (r_bin op_mul d_mulI (toB (r_callB call_len d_len rfl T.z_len (by decide +kernel) (r_bcons (r_varB 9) r_bnil))) (toB (r_callB call_len d_len rfl T.z_len (by decide +kernel) (r_bcons (r_varB 6) r_bnil))))) (toB (r_callB call_len d_len rfl T.z_len (by decide +kernel) (r_bcons (toB (r_call (ok__law_bits T) (hr.mono (by decide)) rfl T.g__law_bits T.F__law_bits.kp T.b__law_bits (r_pcons (r_var 1) r_pnil))) r_bnil))) (nomark _)) (r_one (r_call (ok__law_like T 10) (hr.mono (by decide)) rfl T.g__law_like T.F__law_like.kp T.b__law_like (r_pcons (r_call (ok_parity_left T) (hr.mono (by decide)) rfl T.g_parity_left T.F_parity_left.kp T.b_parity_left (r_pcons (r_var 1) (r_pcons (r_var 6) r_pnil))) (r_pcons (r_bin op_sub d_sub (r_varB 1) (r_varB 4)) r_pnil))))))))))))))))
theorem sc__law_coset_right : FnScope ["table", "n", "made", "message", "row", "line", "rows", "space", "j", "whole", "due", "least", "one", "part", "k"] ["table", "n", "made", "message", "row"] (defScope (topS 27)) := ⟨rfl, rfl, rfl, by decide +kernel, rfl, by decide +kernel, by decide +kernel⟩
theorem ok__law_coset_right (T : Tx K mg) : FnOk P w K mg base CX0 13 T.f__law_coset_right T.fd__law_coset_right ["table", "n", "made", "message", "row"] (spF K m__law_coset_right) :=
  fn_ok T.F__law_coset_right sc__law_coset_right (fun cdv A outer s H E hr => by
    have nd := sc__law_coset_right.nd
    have hu := hr.units
    have hu1 := un1 hr
    exact (s_cons (s_par 6 7 rfl nd (toV (r_call (ok_coset_words T) (hr.mono (by decide)) rfl T.g_coset_words T.F_coset_words.kp T.b_coset_words (r_pcons (r_var 0) (r_pcons (r_var 3) r_pnil)))) (toV (r_call (ok_coset_words T) (hr.mono (by decide)) rfl T.g_coset_words T.F_coset_words.kp T.b_coset_words (r_pcons (r_var 0) (r_pcons (r_callT call_tuple_of d_tuple rfl T.z_tuple (by decide +kernel) (r_bcons (toB (ofN (r_lc (own := [("line", 5)]) rfl nd (i_seq (r_var 0)) (blkOk_by (by kernel_rfl)) (fun _ _ _ _ _ => (g_n 5 nd)) (fun _ _ _ _ _ => c_nil) (fun _ _ _ _ _ => r_int)))) r_bnil)) r_pnil)))) (by rfl))
    (s_cons (s_if (r_tcmp op_isA d_is (r_varB 4) (toB r_non) (nomark _)) (s_one (s_ret (r_and (r_call (ok__law_like T 10) (hr.mono (by decide)) rfl T.g__law_like T.F__law_like.kp T.b__law_like (r_pcons (r_var 6) (r_pcons (r_tup r_pnil) r_pnil))) (r_one (r_cmp op_isA d_is (toB (r_call (ok_changes_needed T) (hr.mono (by decide)) rfl T.g_changes_needed T.F_changes_needed.kp T.b_changes_needed (r_pcons (r_var 0) (r_pcons (r_callT call_tuple_of d_tuple rfl T.z_tuple (by decide +kernel) (r_bcons (toB (ofN (r_binN op_rep d_repL (toB (ofN (r_lstN (r_pcons r_int r_pnil)))) (r_varB 1)))) r_bnil)) (r_pcons (r_var 3) r_pnil))))) (toB r_non) (nomark _)))))) s_nil)
    (s_cons (s_if (r_tnot (r_tru (toB (r_call (ok__law_like T 10) (hr.mono (by decide)) rfl T.g__law_like T.F__law_like.kp T.b__law_like (r_pcons (r_var 6) (r_pcons (r_callT call_tuple_of d_tuple rfl T.z_tuple (by decide +kernel) (r_bcons (toB (ofN (r_callBN op_sortB d_sortB rfl T.z_sorted (by decide +kernel) (r_bcons (toB (ofN (r_lc (own := [("one", 12)]) rfl nd (i_seq (r_var 7)) (blkOk_by (by kernel_rfl)) (fun _ _ _ _ _ => (g_n 12 nd)) (fun _ _ _ _ _ => c_nil) (fun _ _ _ _ _ => (r_call (ok__law_sum T) (hr.mono (by decide)) rfl T.g__law_sum T.F__law_sum.kp T.b__law_sum (r_pcons (r_var 4) (r_pcons (r_var 12) r_pnil))))))) r_bnil)))) r_bnil)) r_pnil)))))) (s_one (s_ret r_bl)) s_nil)
    (s_cons (s_if (r_tnot (r_tru (toB (r_callB (cr_all rfl) d_all rfl T.z_all (by decide +kernel) (r_bcons (toB (ofN (r_lc (own := [("one", 12)]) rfl nd (i_seq (r_var 6)) (blkOk_by (by kernel_rfl)) (fun _ _ _ _ _ => (g_n 12 nd)) (fun _ _ _ _ _ => c_nil) (fun _ _ _ _ _ => (r_call (ok__law_like T 10) (hr.mono (by decide)) rfl T.g__law_like T.F__law_like.kp T.b__law_like (r_pcons (r_call (ok_squeezed T) (hr.mono (by decide)) rfl T.g_squeezed T.F_squeezed.kp T.b_squeezed (r_pcons (r_var 0) (r_pcons (r_var 12) r_pnil))) (r_pcons (r_var 3) r_pnil))))))) r_bnil))))) (s_one (s_ret r_bl)) s_nil)
    (s_cons (s_for PassesOwn.never rfl (i_rng1 rfl T.z_range (toB (r_bin op_addA d_add (r_varB 1) (toB r_int)))) (g_n 8 nd) (s_cons (s_par 9 10 rfl nd (toV (r_callB (cr_sumA rfl) d_sumA rfl T.z_sum (by decide +kernel) (r_bcons (toB (ofN (r_lc (own := [("one", 12)]) rfl nd (i_seq (r_var 6)) (blkOk_by (by kernel_rfl)) (fun _ _ _ _ _ => (g_n 12 nd)) (fun _ _ _ _ _ => c_nil) (fun _ _ _ _ _ => (r_call (ok__law_weight T) (hr.mono (by decide)) rfl T.g__law_weight T.F__law_weight.kp T.b__law_weight (r_pcons (r_var 12) (r_pcons (r_var 8) r_pnil))))))) r_bnil))) (toV r_int) (by rfl))
    (s_cons (s_for PassesOwn.never rfl (i_seq (ofN (r_sortSetT rfl hu rfl T.z_sorted rfl T.z_set (toB (ofN (r_lc (own := [("part", 13), ("one", 12)]) rfl nd (i_seq (r_var 2)) (blkOk_by (by kernel_rfl)) (fun _ _ _ _ _ => (g_t rfl (gs_c (g_n 13 nd) (gs_c (g_n 12 nd) gs_n)))) (fun _ _ _ _ _ => (c_one (r_tcmp (op_eqD hu) d_eq (toB (r_callB (cr_sumA rfl) d_sumA rfl T.z_sum (by decide +kernel) (r_bcons (r_varB 12) r_bnil))) (r_varB 8) (nomark _)))) (fun _ _ _ _ _ => (r_var 12)))))))) (g_n 5 nd) (s_one (s_set 10 nd (toV (r_bin op_addA d_add (r_varB 10) (toB (r_ix (toB (r_tup (r_pcons r_int (r_pcons (r_neg (toB r_int)) r_pnil)))) (toB (r_call (ok__law_even T) (hr.mono (by decide)) rfl T.g__law_even T.F__law_even.kp T.b__law_even (r_pcons (r_var 5) (r_pcons (r_var 4) r_pnil)))))))))))
    (s_one (s_if (r_tcmp (op_neD hu) d_ne (r_varB 9) (toB (r_bin op_mul d_mulI (r_varB 10) (toB (r_callB call_len d_len rfl T.z_len (by decide +kernel) (r_bcons (r_varB 6) r_bnil))))) (nomark _)) (s_one (s_ret r_bl)) s_nil)))))
    (s_cons (s_set 11 nd (toV (r_callB (cr_minPT rfl hu) d_minPT rfl T.z_min (by decide +kernel) (r_bcons (toB (ofN (r_lc (own := [("one", 12)]) rfl nd (i_seq (r_var 6)) (blkOk_by (by kernel_rfl)) (fun _ _ _ _ _ => (g_n 12 nd)) (fun _ _ _ _ _ => c_nil) (fun _ _ _ _ _ => (r_tup (r_pcons (r_callB (cr_sumA rfl) d_sumA rfl T.z_sum (by decide +kernel) (r_bcons (r_varB 12) r_bnil)) (r_pcons (r_callT call_tuple_of d_tuple rfl T.z_tuple (by decide +kernel) (r_bcons (toB (ofN (r_lc (own := [("k", 14)]) rfl nd (i_rng1 rfl T.z_range (r_varB 1)) (blkOk_by (by kernel_rfl)) (fun _ _ _ _ _ => (g_n 14 nd)) (fun _ _ _ _ _ => (c_one (r_tcmp (op_eqD hu) d_eq (toB (r_ix (r_varB 12) (r_varB 14))) (toB r_int) (nomark _)))) (fun _ _ _ _ _ => (r_var 14))))) r_bnil)) r_pnil))))))) r_bnil))))
    (s_one (s_ret (r_call (ok__law_like T 10) (hr.mono (by decide)) rfl T.g__law_like T.F__law_like.kp T.b__law_like (r_pcons (r_call (ok_changes_needed T) (hr.mono (by decide)) rfl T.g_changes_needed T.F_changes_needed.kp T.b_changes_needed (r_pcons (r_var 0) (r_pcons (r_callT call_tuple_of d_tuple rfl T.z_tuple (by decide +kernel) (r_bcons (toB (ofN (r_binN op_rep d_repL (toB (ofN (r_lstN (r_pcons r_int r_pnil)))) (r_varB 1)))) r_bnil)) (r_pcons (r_var 3) r_pnil)))) (r_pcons (r_var 11) r_pnil))))))))))))
theorem sc__law_changes_right : FnScope ["table", "n", "first", "second", "message", "lacks", "told", "line"] ["table", "n", "first", "second"] (defScope (topS 28)) := ⟨rfl, rfl, rfl, by decide +kernel, rfl, by decide +kernel, by decide +kernel⟩
theorem ok__law_changes_right (T : Tx K mg) : FnOk P w K mg base CX0 13 T.f__law_changes_right T.fd__law_changes_right ["table", "n", "first", "second"] (spF K m__law_changes_right) :=
  fn_ok T.F__law_changes_right sc__law_changes_right (fun cdv A outer s H E hr => by
    have nd := sc__law_changes_right.nd
    have hu := hr.units
    have hu1 := un1 hr
    exact (s_cons (s_set 4 nd (toV (r_callT call_tuple_of d_tuple rfl T.z_tuple (by decide +kernel) (r_bcons (toB (ofN (r_lc (own := [("line", 7)]) rfl nd (i_seq (r_var 0)) (blkOk_by (by kernel_rfl)) (fun _ _ _ _ _ => (g_n 7 nd)) (fun _ _ _ _ _ => c_nil) (fun _ _ _ _ _ => (r_call (ok__law_even T) (hr.mono (by decide)) rfl T.g__law_even T.F__law_even.kp T.b__law_even (r_pcons (r_var 3) (r_pcons (r_var 7) r_pnil))))))) r_bnil))))
    (s_cons (s_set 5 nd (toV (r_callT call_tuple_of d_tuple rfl T.z_tuple (by decide +kernel) (r_bcons (toB (ofN (r_lc (own := [("line", 7)]) rfl nd (i_seq (r_var 0)) (blkOk_by (by kernel_rfl)) (fun _ _ _ _ _ => (g_n 7 nd)) (fun _ _ _ _ _ => c_nil) (fun _ _ _ _ _ => (r_call (ok__law_even T) (hr.mono (by decide)) rfl T.g__law_even T.F__law_even.kp T.b__law_even (r_pcons (r_call (ok__law_sum T) (hr.mono (by decide)) rfl T.g__law_sum T.F__law_sum.kp T.b__law_sum (r_pcons (r_var 2) (r_pcons (r_var 3) r_pnil))) (r_pcons (r_var 7) r_pnil))))))) r_bnil))))
    (s_cons (s_if (r_tnot (r_tru (toB (r_call (ok__law_like T 10) (hr.mono (by decide)) rfl T.g__law_like T.F__law_like.kp T.b__law_like (r_pcons (r_call (ok_squeezed T) (hr.mono (by decide)) rfl T.g_squeezed T.F_squeezed.kp T.b_squeezed (r_pcons (r_var 0) (r_pcons (r_var 3) r_pnil))) (r_pcons (r_var 4) r_pnil)))))) (s_one (s_ret r_bl)) s_nil)
    (s_cons (s_set 6 nd (toV (r_call (ok_changes_needed T) (hr.mono (by decide)) rfl T.g_changes_needed T.F_changes_needed.kp T.b_changes_needed (r_pcons (r_var 0) (r_pcons (r_var 2) (r_pcons (r_var 4) r_pnil))))))
    (s_one (s_ret (r_and (r_isi .tuple (r_varB 6) rfl T.z_isinstance rfl T.z_tuple (by decide +kernel)) (r_one (r_call (ok__law_like T 10) (hr.mono (by decide)) rfl T.g__law_like T.F__law_like.kp T.b__law_like (r_pcons (r_var 6) (r_pcons (r_call (ok_changes_needed T) (hr.mono (by decide)) rfl T.g_changes_needed T.F_changes_needed.kp T.b_changes_needed (r_pcons (r_var 0) (r_pcons (r_callT call_tuple_of d_tuple rfl T.z_tuple (by decide +kernel) (r_bcons (toB (ofN (r_binN op_rep d_repL (toB (ofN (r_lstN (r_pcons r_int r_pnil)))) (r_varB 1)))) r_bnil)) (r_pcons (r_var 5) r_pnil)))) r_pnil))))))))))))
theorem sc_law : FnScope ["script", "row", "table", "n", "made", "first", "second", "message", "other", "reached", "likely", "one", "k", "line"] ["script"] (defScope (topS 29)) := ⟨rfl, rfl, rfl, by decide +kernel, rfl, by decide +kernel, by decide +kernel⟩
theorem ok_law (T : Tx K mg) : FnOk P w K mg base CX0 14 T.f_law T.fd_law ["script"] (spF K m_law) :=
  fn_ok T.F_law sc_law (fun cdv A outer s H E hr => by
    have nd := sc_law.nd
    have hu := hr.units
    have hu1 := un1 hr
    exact (s_cons (s_set 1 nd (toV (r_call (ok__law_row T) (hr.mono (by decide)) rfl T.g__law_row T.F__law_row.kp T.b__law_row (r_pcons (r_var 0) (r_pcons r_int r_pnil)))))
    (s_cons (s_set 2 nd (toV (r_call (ok__law_table T) (hr.mono (by decide)) rfl T.g__law_table T.F__law_table.kp T.b__law_table (r_pcons (r_var 1) r_pnil))))
    (s_cons (s_set 3 nd (toV (r_callB call_len d_len rfl T.z_len (by decide +kernel) (r_bcons (toB (r_ix (r_varB 2) (toB r_int))) r_bnil))))
    (s_cons (s_set 4 nd (toV (r_call (ok__law_made T) (hr.mono (by decide)) rfl T.g__law_made T.F__law_made.kp T.b__law_made (r_pcons (r_var 2) (r_pcons (r_var 3) r_pnil)))))
    (s_cons (s_set 5 nd (toV (r_callT call_tuple_of d_tuple rfl T.z_tuple (by decide +kernel) (r_bcons (toB (ofN (r_lc (own := [("k", 12)]) rfl nd (i_rng1 rfl T.z_range (r_varB 3)) (blkOk_by (by kernel_rfl)) (fun _ _ _ _ _ => (g_n 12 nd)) (fun _ _ _ _ _ => c_nil) (fun _ _ _ _ _ => (r_bin op_mod d_mod (toB (r_callT call_int1 d_int1 rfl T.z_int (by decide +kernel) (r_bcons (toB (r_ix (r_varB 1) (toB (r_bin op_addA d_add (toB r_int) (r_varB 12))))) r_bnil))) (toB r_int)))))) r_bnil))))
    (s_cons (s_set 6 nd (toV (r_callT call_tuple_of d_tuple rfl T.z_tuple (by decide +kernel) (r_bcons (toB (ofN (r_lc (own := [("k", 12)]) rfl nd (i_rng1 rfl T.z_range (r_varB 3)) (blkOk_by (by kernel_rfl)) (fun _ _ _ _ _ => (g_n 12 nd)) (fun _ _ _ _ _ => c_nil) (fun _ _ _ _ _ => (r_bin op_mod d_mod (toB (r_callT call_int1 d_int1 rfl T.z_int (by decide +kernel) (r_bcons (toB (r_ix (r_varB 1) (toB (r_bin op_addA d_add (toB r_int) (r_varB 12))))) r_bnil))) (toB r_int)))))) r_bnil))))
    (s_cons (s_if (r_tnot (r_tru (toB (r_call (ok__law_space_right T) (hr.mono (by decide)) rfl T.g__law_space_right T.F__law_space_right.kp T.b__law_space_right (r_pcons (r_var 2) (r_pcons (r_var 3) (r_pcons (r_var 4) r_pnil))))))) (s_one (s_ret r_bl)) s_nil)
    (s_cons (s_set 7 nd (toV (r_callT call_tuple_of d_tuple rfl T.z_tuple (by decide +kernel) (r_bcons (toB (ofN (r_lc (own := [("line", 13)]) rfl nd (i_seq (r_var 2)) (blkOk_by (by kernel_rfl)) (fun _ _ _ _ _ => (g_n 13 nd)) (fun _ _ _ _ _ => c_nil) (fun _ _ _ _ _ => (r_call (ok__law_even T) (hr.mono (by decide)) rfl T.g__law_even T.F__law_even.kp T.b__law_even (r_pcons (r_var 5) (r_pcons (r_var 13) r_pnil))))))) r_bnil))))
    (s_cons (s_set 8 nd (toV (r_callT call_tuple_of d_tuple rfl T.z_tuple (by decide +kernel) (r_bcons (toB (ofN (r_lc (own := [("k", 12)]) rfl nd (i_rng1 rfl T.z_range (toB (r_callB call_len d_len rfl T.z_len (by decide +kernel) (r_bcons (r_varB 2) r_bnil)))) (blkOk_by (by kernel_rfl)) (fun _ _ _ _ _ => (g_n 12 nd)) (fun _ _ _ _ _ => c_nil) (fun _ _ _ _ _ => (r_bin op_mod d_mod (toB (r_callT call_int1 d_int1 rfl T.z_int (by decide +kernel) (r_bcons (toB (r_ix (r_varB 1) (toB (r_bin op_addA d_add (toB r_int) (r_varB 12))))) r_bnil))) (toB r_int)))))) r_bnil))))
    (s_cons (s_if (r_tnot (r_tru (toB (r_call (ok__law_coset_right T) (hr.mono (by decide)) rfl T.g__law_coset_right T.F__law_coset_right.kp T.b__law_coset_right (r_pcons (r_var 2) (r_pcons (r_var 3) (r_pcons (r_var 4) (r_pcons (r_var 7) (r_pcons (r_var 5) r_pnil))))))))) (s_one (s_ret r_bl)) s_nil)
    (s_cons (s_setF (s_setLc (own := [("one", 11)]) 9 rfl nd (i_seq (r_call (ok__law_bits T) (hr.mono (by decide)) rfl T.g__law_bits T.F__law_bits.kp T.b__law_bits (r_pcons (r_var 3) r_pnil))) (blkOk_by (by kernel_rfl)) (fun _ _ _ _ _ => (g_n 11 nd)) (fun _ _ _ _ _ => (c_one (r_tcmp (op_eqD hu) d_eq (toB (r_callT call_tuple_of d_tuple rfl T.z_tuple (by decide +kernel) (r_bcons (toB (ofN (r_lc (own := [("line", 13)]) rfl nd (i_seq (r_var 2)) (blkOk_by (by kernel_rfl)) (fun _ _ _ _ _ => (g_n 13 nd)) (fun _ _ _ _ _ => c_nil) (fun _ _ _ _ _ => (r_call (ok__law_even T) (hr.mono (by decide)) rfl T.g__law_even T.F__law_even.kp T.b__law_even (r_pcons (r_var 11) (r_pcons (r_var 13) r_pnil))))))) r_bnil))) (r_varB 8) (nomark _)))) (fun _ _ _ _ _ => (r_var 11)) (sw_true rfl rfl rfl (by decide +kernel))))
    (s_cons (s_set 10 nd (toV r_non))
    (s_cons (s_if (r_tcmp op_gt d_gt (toB (r_callB call_len d_len rfl T.z_len (by decide +kernel) (r_bcons (r_varB 9) r_bnil))) (toB r_int) (nomark _)) (s_one (s_set 10 nd (toV (r_ix (r_varB 9) (toB (r_neg (toB r_int))))))) s_nil)
    (s_cons (s_if (r_tnot (r_tru (toB (r_call (ok__law_coset_right T) (hr.mono (by decide)) rfl T.g__law_coset_right T.F__law_coset_right.kp T.b__law_coset_right (r_pcons (r_var 2) (r_pcons (r_var 3) (r_pcons (r_var 4) (r_pcons (r_var 8) (r_pcons (r_var 10) r_pnil))))))))) (s_one (s_ret r_bl)) s_nil)
    (s_one (s_ret (r_call (ok__law_changes_right T) (hr.mono (by decide)) rfl T.g__law_changes_right T.F__law_changes_right.kp T.b__law_changes_right (r_pcons (r_var 2) (r_pcons (r_var 3) (r_pcons (r_var 5) (r_pcons (r_var 6) r_pnil))))))))))))))))))))))
end
/-! the head -/
def dn (x : Str) (i : Nat) : He.FnD := ⟨(x, none), x, x, defArgs (topS i), defBody (topS i), defScope (topS i)⟩
def fnl : List He.FnD := [dn "all_sets" 1, dn "size_key" 2, dn "mask_of" 4, dn "parity_left" 5, dn "parity_of" 6, dn "squeezed" 7, dn "settled_places" 8, dn "coset_words" 9, dn "lacks_of" 11, dn "least_changes" 12, dn "changes_needed" 13, dn "_law_mixed" 15, dn "_law_row" 16, dn "_law_is_int" 17, dn "_law_like" 18, dn "_law_bits" 19, dn "_law_choose" 20, dn "_law_sum" 21, dn "_law_even" 22, dn "_law_table" 23, dn "_law_made" 24, dn "_law_weight" 25, dn "_law_space_right" 26, dn "_law_coset_right" 27, dn "_law_changes_right" 28, dn "law" 29]
def fal0 : List He.Fa := [.glo "all_sets", .glo "size_key", .glo "mask_of", .glo "parity_left", .glo "parity_of", .glo "squeezed", .glo "settled_places", .glo "coset_words", .glo "lacks_of", .glo "least_changes", .glo "changes_needed", .glo "_law_mixed", .glo "_law_row", .glo "_law_is_int", .glo "_law_like", .glo "_law_bits", .glo "_law_choose", .glo "_law_sum", .glo "_law_even", .glo "_law_table", .glo "_law_made", .glo "_law_weight", .glo "_law_space_right", .glo "_law_coset_right", .glo "_law_changes_right", .glo "law", .keep "all_sets", .keep "size_key", .keep "mask_of", .keep "parity_left"]
def fal1 : List He.Fa := [.keep "parity_of", .keep "squeezed", .keep "settled_places", .keep "coset_words", .keep "lacks_of", .keep "least_changes", .keep "changes_needed", .keep "_law_mixed", .keep "_law_row", .keep "_law_is_int", .keep "_law_like", .keep "_law_bits", .keep "_law_choose", .keep "_law_sum", .keep "_law_even", .keep "_law_table", .keep "_law_made", .keep "_law_weight", .keep "_law_space_right", .keep "_law_coset_right", .keep "_law_changes_right", .keep "law", .free "all", .free "any", .free "bool", .free "enumerate", .free "int", .free "isinstance", .free "len", .free "max"]
def fal2 : List He.Fa := [.free "min", .free "range", .free "set", .free "sorted", .free "str", .free "sum", .free "tuple", .free "zip"]
def fal : List He.Fa := fal0 ++ fal1 ++ fal2
def nms0 : List Str := ["all_sets", "size_key", "mask_of", "parity_left", "parity_of", "squeezed", "settled_places", "coset_words", "lacks_of", "least_changes", "changes_needed", "_law_mixed", "_law_row", "_law_is_int", "_law_like", "_law_bits", "_law_choose", "_law_sum", "_law_even", "_law_table", "_law_made", "_law_weight", "_law_space_right", "_law_coset_right", "_law_changes_right"]
def nms : List Str := nms0
abbrev R : PySem.W.OpenRow := PySem.W.OpenLaw.row PySem.Challenge.rw_sealskept_k74_whole_weights_of_rows
abbrev hk : PySem.W.Hook := He.hookE 4 fal fnl
def ob (s : PySem.W.SharedT) : He.Al := He.obsG 4 fal fnl (HandSHeadRun.getT s)
theorem ob_eq (s : PySem.W.SharedT) : ob s = hk.obs s.abs := He.obsG_eq (HandSHeadRun.getT_eq s)
set_option maxHeartbeats 0 in
theorem run (w : World) : HandSHeadRun.RunEq R (PySem.W.view R.prog [29]) hk ob 20000 nms w := by
  intro os
  kernel_rfl
theorem facts {K : PySem.W.Frag} {h : Heap} {mg : Str → Option Value} (X : K.In h) (G : h.Ns mainGlobals mg) (c : He.SaysE fal fnl K) : ∃ T : Tx K mg, ∀ (s : Shared) (u : Value), BindsTo s T.fd_law ⟨[u], []⟩ [("script", u)] := by
  obtain ⟨f0, fd0, F0, g0, b0, B0⟩ := def_at X G c "all_sets" (topS 1) ["n"] 0 0 26 rfl rfl rfl (fun _ _ _ _ _ _ us hl => match us, hl with | [_], _ => rfl)
  obtain ⟨f1, fd1, F1, g1, b1, B1⟩ := def_at X G c "size_key" (topS 2) ["row"] 1 1 27 rfl rfl rfl (fun _ _ _ _ _ _ us hl => match us, hl with | [_], _ => rfl)
  obtain ⟨f2, fd2, F2, g2, b2, B2⟩ := def_at X G c "mask_of" (topS 4) ["row"] 2 2 28 rfl rfl rfl (fun _ _ _ _ _ _ us hl => match us, hl with | [_], _ => rfl)
  obtain ⟨f3, fd3, F3, g3, b3, B3⟩ := def_at X G c "parity_left" (topS 5) ["n", "sums"] 3 3 29 rfl rfl rfl (fun _ _ _ _ _ _ us hl => match us, hl with | [_, _], _ => rfl)
  obtain ⟨f4, fd4, F4, g4, b4, B4⟩ := def_at X G c "parity_of" (topS 6) ["row", "bits"] 4 4 30 rfl rfl rfl (fun _ _ _ _ _ _ us hl => match us, hl with | [_, _], _ => rfl)
  obtain ⟨f5, fd5, F5, g5, b5, B5⟩ := def_at X G c "squeezed" (topS 7) ["table", "bits"] 5 5 31 rfl rfl rfl (fun _ _ _ _ _ _ us hl => match us, hl with | [_, _], _ => rfl)
  obtain ⟨f6, fd6, F6, g6, b6, B6⟩ := def_at X G c "settled_places" (topS 8) ["table", "message"] 6 6 32 rfl rfl rfl (fun _ _ _ _ _ _ us hl => match us, hl with | [_, _], _ => rfl)
  obtain ⟨f7, fd7, F7, g7, b7, B7⟩ := def_at X G c "coset_words" (topS 9) ["table", "message"] 7 7 33 rfl rfl rfl (fun _ _ _ _ _ _ us hl => match us, hl with | [_, _], _ => rfl)
  obtain ⟨f8, fd8, F8, g8, b8, B8⟩ := def_at X G c "lacks_of" (topS 11) ["table", "bits", "message"] 8 8 34 rfl rfl rfl (fun _ _ _ _ _ _ us hl => match us, hl with | [_, _, _], _ => rfl)
  obtain ⟨f9, fd9, F9, g9, b9, B9⟩ := def_at X G c "least_changes" (topS 12) ["table", "lacks", "places"] 9 9 35 rfl rfl rfl (fun _ _ _ _ _ _ us hl => match us, hl with | [_, _, _], _ => rfl)
  obtain ⟨f10, fd10, F10, g10, b10, B10⟩ := def_at X G c "changes_needed" (topS 13) ["table", "bits", "message"] 10 10 36 rfl rfl rfl (fun _ _ _ _ _ _ us hl => match us, hl with | [_, _, _], _ => rfl)
  obtain ⟨f11, fd11, F11, g11, b11, B11⟩ := def_at X G c "_law_mixed" (topS 15) ["script", "k"] 11 11 37 rfl rfl rfl (fun _ _ _ _ _ _ us hl => match us, hl with | [_, _], _ => rfl)
  obtain ⟨f12, fd12, F12, g12, b12, B12⟩ := def_at X G c "_law_row" (topS 16) ["script", "many"] 12 12 38 rfl rfl rfl (fun _ _ _ _ _ _ us hl => match us, hl with | [_, _], _ => rfl)
  obtain ⟨f13, fd13, F13, g13, b13, B13⟩ := def_at X G c "_law_is_int" (topS 17) ["value"] 13 13 39 rfl rfl rfl (fun _ _ _ _ _ _ us hl => match us, hl with | [_], _ => rfl)
  obtain ⟨f14, fd14, F14, g14, b14, B14⟩ := def_at X G c "_law_like" (topS 18) ["value", "due"] 14 14 40 rfl rfl rfl (fun _ _ _ _ _ _ us hl => match us, hl with | [_, _], _ => rfl)
  obtain ⟨f15, fd15, F15, g15, b15, B15⟩ := def_at X G c "_law_bits" (topS 19) ["count"] 15 15 41 rfl rfl rfl (fun _ _ _ _ _ _ us hl => match us, hl with | [_], _ => rfl)
  obtain ⟨f16, fd16, F16, g16, b16, B16⟩ := def_at X G c "_law_choose" (topS 20) ["n", "k"] 16 16 42 rfl rfl rfl (fun _ _ _ _ _ _ us hl => match us, hl with | [_, _], _ => rfl)
  obtain ⟨f17, fd17, F17, g17, b17, B17⟩ := def_at X G c "_law_sum" (topS 21) ["first", "second"] 17 17 43 rfl rfl rfl (fun _ _ _ _ _ _ us hl => match us, hl with | [_, _], _ => rfl)
  obtain ⟨f18, fd18, F18, g18, b18, B18⟩ := def_at X G c "_law_even" (topS 22) ["first", "second"] 18 18 44 rfl rfl rfl (fun _ _ _ _ _ _ us hl => match us, hl with | [_, _], _ => rfl)
  obtain ⟨f19, fd19, F19, g19, b19, B19⟩ := def_at X G c "_law_table" (topS 23) ["row"] 19 19 45 rfl rfl rfl (fun _ _ _ _ _ _ us hl => match us, hl with | [_], _ => rfl)
  obtain ⟨f20, fd20, F20, g20, b20, B20⟩ := def_at X G c "_law_made" (topS 24) ["table", "n"] 20 20 46 rfl rfl rfl (fun _ _ _ _ _ _ us hl => match us, hl with | [_, _], _ => rfl)
  obtain ⟨f21, fd21, F21, g21, b21, B21⟩ := def_at X G c "_law_weight" (topS 25) ["row", "j"] 21 21 47 rfl rfl rfl (fun _ _ _ _ _ _ us hl => match us, hl with | [_, _], _ => rfl)
  obtain ⟨f22, fd22, F22, g22, b22, B22⟩ := def_at X G c "_law_space_right" (topS 26) ["table", "n", "made"] 22 22 48 rfl rfl rfl (fun _ _ _ _ _ _ us hl => match us, hl with | [_, _, _], _ => rfl)
  obtain ⟨f23, fd23, F23, g23, b23, B23⟩ := def_at X G c "_law_coset_right" (topS 27) ["table", "n", "made", "message", "row"] 23 23 49 rfl rfl rfl (fun _ _ _ _ _ _ us hl => match us, hl with | [_, _, _, _, _], _ => rfl)
  obtain ⟨f24, fd24, F24, g24, b24, B24⟩ := def_at X G c "_law_changes_right" (topS 28) ["table", "n", "first", "second"] 24 24 50 rfl rfl rfl (fun _ _ _ _ _ _ us hl => match us, hl with | [_, _, _, _], _ => rfl)
  obtain ⟨f25, fd25, F25, g25, b25, B25⟩ := def_at X G c "law" (topS 29) ["script"] 25 25 51 rfl rfl rfl (fun _ _ _ _ _ _ us hl => match us, hl with | [_], _ => rfl)
  have z0 := free_at X G c "all" 52 rfl
  have z1 := free_at X G c "any" 53 rfl
  have z2 := free_at X G c "bool" 54 rfl
  have z3 := free_at X G c "enumerate" 55 rfl
  have z4 := free_at X G c "int" 56 rfl
  have z5 := free_at X G c "isinstance" 57 rfl
  have z6 := free_at X G c "len" 58 rfl
  have z7 := free_at X G c "max" 59 rfl
  have z8 := free_at X G c "min" 60 rfl
  have z9 := free_at X G c "range" 61 rfl
  have z10 := free_at X G c "set" 62 rfl
  have z11 := free_at X G c "sorted" 63 rfl
  have z12 := free_at X G c "str" 64 rfl
  have z13 := free_at X G c "sum" 65 rfl
  have z14 := free_at X G c "tuple" 66 rfl
  have z15 := free_at X G c "zip" 67 rfl
  exact ⟨{ f_all_sets := f0, fd_all_sets := fd0, F_all_sets := F0, g_all_sets := g0, b_all_sets := b0, f_size_key := f1, fd_size_key := fd1, F_size_key := F1, g_size_key := g1, b_size_key := b1, f_mask_of := f2, fd_mask_of := fd2, F_mask_of := F2, g_mask_of := g2, b_mask_of := b2, f_parity_left := f3, fd_parity_left := fd3, F_parity_left := F3, g_parity_left := g3, b_parity_left := b3, f_parity_of := f4, fd_parity_of := fd4, F_parity_of := F4, g_parity_of := g4, b_parity_of := b4, f_squeezed := f5, fd_squeezed := fd5, F_squeezed := F5, g_squeezed := g5, b_squeezed := b5, f_settled_places := f6, fd_settled_places := fd6, F_settled_places := F6, g_settled_places := g6, b_settled_places := b6, f_coset_words := f7, fd_coset_words := fd7, F_coset_words := F7, g_coset_words := g7, b_coset_words := b7, f_lacks_of := f8, fd_lacks_of := fd8, F_lacks_of := F8, g_lacks_of := g8, b_lacks_of := b8, f_least_changes := f9, fd_least_changes := fd9, F_least_changes := F9, g_least_changes := g9, b_least_changes := b9, f_changes_needed := f10, fd_changes_needed := fd10, F_changes_needed := F10, g_changes_needed := g10, b_changes_needed := b10, f__law_mixed := f11, fd__law_mixed := fd11, F__law_mixed := F11, g__law_mixed := g11, b__law_mixed := b11, f__law_row := f12, fd__law_row := fd12, F__law_row := F12, g__law_row := g12, b__law_row := b12, f__law_is_int := f13, fd__law_is_int := fd13, F__law_is_int := F13, g__law_is_int := g13, b__law_is_int := b13, f__law_like := f14, fd__law_like := fd14, F__law_like := F14, g__law_like := g14, b__law_like := b14, f__law_bits := f15, fd__law_bits := fd15, F__law_bits := F15, g__law_bits := g15, b__law_bits := b15, f__law_choose := f16, fd__law_choose := fd16, F__law_choose := F16, g__law_choose := g16, b__law_choose := b16, f__law_sum := f17, fd__law_sum := fd17, F__law_sum := F17, g__law_sum := g17, b__law_sum := b17, f__law_even := f18, fd__law_even := fd18, F__law_even := F18, g__law_even := g18, b__law_even := b18, f__law_table := f19, fd__law_table := fd19, F__law_table := F19, g__law_table := g19, b__law_table := b19, f__law_made := f20, fd__law_made := fd20, F__law_made := F20, g__law_made := g20, b__law_made := b20, f__law_weight := f21, fd__law_weight := fd21, F__law_weight := F21, g__law_weight := g21, b__law_weight := b21, f__law_space_right := f22, fd__law_space_right := fd22, F__law_space_right := F22, g__law_space_right := g22, b__law_space_right := b22, f__law_coset_right := f23, fd__law_coset_right := fd23, F__law_coset_right := F23, g__law_coset_right := g23, b__law_coset_right := b23, f__law_changes_right := f24, fd__law_changes_right := fd24, F__law_changes_right := F24, g__law_changes_right := g24, b__law_changes_right := b24, f_law := f25, fd_law := fd25, F_law := F25, g_law := g25, b_law := b25, z_all := z0, z_any := z1, z_bool := z2, z_enumerate := z3, z_int := z4, z_isinstance := z5, z_len := z6, z_max := z7, z_min := z8, z_range := z9, z_set := z10, z_sorted := z11, z_str := z12, z_sum := z13, z_tuple := z14, z_zip := z15 }, fun s u => B25 s [u] rfl⟩
end K74

set_option Elab.async false
set_option linter.all false
set_option maxRecDepth 100000
set_option maxHeartbeats 4000000
set_option autoImplicit false
namespace K74
open PySem PySem.Spec PyProof.Rows L2 SK
noncomputable def t_all_sets (a_n : Int) : Option (List (List Int)) := tRun
  (tLet [([] : (List Int))] fun found_1 =>
  (tBind (tRng3 (iSub a_n (Int.ofNat 1)) (iNeg (Int.ofNat 1)) (iNeg (Int.ofNat 1))) fun v2 =>
  (tLp (yFor (fun (s3 : (List (List Int))) (x4 : Int) =>
  (tBind (tBind (tAllO (fun x5 => (tLim (tCat [x4] x5))) s3) tLim) fun v7 =>
  (tBind (tLim (tCat [([] : (List Int))] v7)) fun v8 =>
  (tBind (tBind (tFilO (fun x9 => (some (bNot (tEmp x9)))) (fun x9 => (some x9)) s3) tLim) fun v10 =>
  (tBind (tLim (tCat v8 v10)) fun v11 =>
  (tLet v11 fun found_12 =>
  (some (.nx found_12)))))))) v2 found_1) fun s3 =>
  (some (.rt s3)))))
theorem T_all_sets (a_n : Int) : ∀ r, t_all_sets a_n = some r → m_all_sets [eI a_n] = some ((eL (eT eI)) r) := fun r h =>
  fn_t (ss := [some (.val (eI a_n)), none, none, none]) (e := (eL (eT eI))) (b := b_all_sets) h rfl (.s (.a (.a (.a .n)))) (St.set (es := fun z => .val ((eL (eT eI)) z)) (Eg.xv (Eg.ll (Eg.lc (Eg.tl (Eg.l0 (e := eI)) rfl) (Eg.l0 (e := (eT eI)))) rfl)) fun found_1 =>
  (St.at [some (.val (eI a_n)), some (.val ((eL (eT eI)) found_1)), none, none] (St.bind (Eo.rng3 (Eg.sub (Eg.varB (i := 0) rfl) Eg.ci) (Eg.neg Eg.ci) (Eg.neg Eg.ci)) fun v2 hv2 =>
  (St.for (S := (fun s3 : (List (List Int)) => [some (.val (eI a_n)), some (.val ((eL (eT eI)) s3)), none, none])) (ex := eI) hv2 (.s (.s (.a (.a .n)))) (fun s3 x4 => Tg.n) (fun s3 x4 => (St.at [some (.val (eI a_n)), some (.val ((eL (eT eI)) s3)), some (.val (eI x4)), none] (St.last (St.bind (Eo.lcm (ex := (eT eI)) (Eg.itL (Eg.var (i := 1) rfl)) (fun x5 => Tg.n) (fun x5 => (Eo.catT (Eg.tl (Eg.lc (Eg.var (i := 2) rfl) (Eg.l0 (e := eI))) rfl) (Eg.varB (i := 3) rfl)))) fun v7 hv7 =>
  (St.bind (Eo.catL (Eg.ll (Eg.lc (Eg.tl (Eg.l0 (e := eI)) rfl) (Eg.l0 (e := (eT eI)))) rfl) hv7) fun v8 hv8 =>
  (St.bind (Eo.lcc (ex := (eT eI)) (Eg.itL (Eg.var (i := 1) rfl)) (fun x9 => Tg.n) (fun x9 => (Eo.ret (e := fun b : Bool => b) (Eg.truT (Eg.varB (i := 3) rfl)))) (fun x9 => (Eo.ret (e := (eT eI)) (Eg.var (i := 3) rfl)))) fun v10 hv10 =>
  (St.bind (Eo.catL hv8 hv10) fun v11 hv11 =>
  (St.set (es := fun z => .val ((eL (eT eI)) z)) (Eg.xv hv11) fun found_12 =>
  (St.at [some (.val (eI a_n)), some (.val ((eL (eT eI)) found_12)), some (.val (eI x4)), none] (St.nx fun Γ m => m.sub (.s (.s (.a (.a .n)))))))))))))) fun s3 =>
  (St.at [some (.val (eI a_n)), some (.val ((eL (eT eI)) s3)), none, none] (St.ret (Eg.var (i := 1) rfl)))))))
noncomputable def t_size_key (a_row : (List Int)) : Option (Int × (List Int)) := tRun
  (some (.rt ((iLen a_row), a_row)))
theorem T_size_key (a_row : (List Int)) : ∀ r, t_size_key a_row = some r → m_size_key [(eT eI) a_row] = some ((eP2 eI (eT eI)) r) := fun r h =>
  fn_t (ss := [some (.val ((eT eI) a_row))]) (e := (eP2 eI (eT eI))) (b := b_size_key) h rfl (.s .n) (St.ret (Eg.p2 (e := eI) (f := (eT eI)) (Eg.lenT (Eg.varB (i := 0) rfl)) (Eg.var (i := 0) rfl)))
noncomputable def t_mask_of (a_row : (List Int)) : Option Int := tRun
  (tBind (tBind (tFilO (fun x1 => (some (bNot (iEq x1.2 (Int.ofNat 0))))) (fun x1 => (tShl (Int.ofNat 1) x1.1)) (tEnum a_row)) tLim) fun v3 =>
  (some (.rt (tSum v3))))
theorem T_mask_of (a_row : (List Int)) : ∀ r, t_mask_of a_row = some r → m_mask_of [(eT eI) a_row] = some (eI r) := fun r h =>
  fn_t (ss := [some (.val ((eT eI) a_row)), none, none]) (e := eI) (b := b_mask_of) h rfl (.s (.a (.a .n))) (St.bind (Eo.lcc (ex := (eP2 eI eI)) (Eg.enumT (Eg.var (i := 0) rfl)) (fun x1 => (Tg.p2 Tg.n Tg.n)) (fun x1 => (Eo.ret (e := fun b : Bool => b) (Eg.truI (Eg.varB (i := 2) rfl)))) (fun x1 => (Eo.shl Eg.ci (Eg.varB (i := 1) rfl)))) fun v3 hv3 =>
  (St.ret (Eg.sumL hv3)))
noncomputable def t_parity_left (a_n : Int) (a_sums : (List (List Int))) : Option Int := tRun
  (tLet ([] : (List (Int × Int))) fun heads_1 =>
  (tLp (yFor (fun (s2 : (List (Int × Int))) (x3 : (List Int)) =>
  (tBind (t_mask_of x3) fun v4 =>
  (tLet v4 fun mask_5 =>
  (tLp (tWh (fun s6 : Int => (some (bAnd (bNot (iEq s6 (Int.ofNat 0))) (tSome (tFnd iEq s2 (tBits s6)))))) (fun s6 : Int =>
  (tBind (tFnd iEq s2 (tBits s6)) fun v9 =>
  (tLet (Builtin.bitXor s6 v9) fun mask_10 =>
  (some (.nx mask_10))))) 2000 mask_5) fun s6 =>
  (bIf (bNot (iEq s6 (Int.ofNat 0)))
  (tBind (tPut iEq s2 (tBits s6) s6) fun heads_8 =>
  (some (.nx heads_8)))
  (some (.nx s2))))))) a_sums heads_1) fun s2 =>
  (some (.rt (iSub a_n (iLen s2))))))
theorem T_parity_left (a_n : Int) (a_sums : (List (List Int))) : ∀ r, t_parity_left a_n a_sums = some r → m_parity_left [eI a_n, (eT (eT eI)) a_sums] = some (eI r) := fun r h =>
  fn_t (ss := [some (.val (eI a_n)), some (.val ((eT (eT eI)) a_sums)), none, none, none]) (e := eI) (b := b_parity_left) h rfl (.s (.s (.a (.a (.a .n))))) (St.set (es := fun z => .own ((eA eI) z)) (Eg.xo (Eg.dnew (e := eI))) fun heads_1 =>
  (St.at [some (.val (eI a_n)), some (.val ((eT (eT eI)) a_sums)), some (.own ((eA eI) heads_1)), none, none] (St.for (S := (fun s2 : (List (Int × Int)) => [some (.val (eI a_n)), some (.val ((eT (eT eI)) a_sums)), some (.own ((eA eI) s2)), none, none])) (ex := (eT eI)) (Eg.itT (Eg.var (i := 1) rfl)) (.s (.s (.s (.a (.a .n))))) (fun s2 x3 => Tg.n) (fun s2 x3 => (St.at [some (.val (eI a_n)), some (.val ((eT (eT eI)) a_sums)), some (.own ((eA eI) s2)), some (.val ((eT eI) x3)), none] (St.bind (Eo.call (T_mask_of _) (Eg.ac (Eg.var (i := 3) rfl) Eg.a0)) fun v4 hv4 =>
  (St.set (es := fun z => .val (eI z)) (Eg.xv hv4) fun mask_5 =>
  (St.at [some (.val (eI a_n)), some (.val ((eT (eT eI)) a_sums)), some (.own ((eA eI) s2)), some (.val ((eT eI) x3)), some (.val (eI mask_5))] (St.wh (S := (fun s6 : Int => [some (.val (eI a_n)), some (.val ((eT (eT eI)) a_sums)), some (.own ((eA eI) s2)), some (.val ((eT eI) x3)), some (.val (eI s6))])) (.s (.s (.s (.s (.s .n))))) (fun s6 => (Eo.ret (e := fun b : Bool => b) (Eg.tand (Eg.truI (Eg.varB (i := 4) rfl)) (Eg.tb (Eg.inD (Eg.bits (Eg.varB (i := 4) rfl)) (Eg.varO (i := 2) rfl)))))) (fun s6 => (St.at [some (.val (eI a_n)), some (.val ((eT (eT eI)) a_sums)), some (.own ((eA eI) s2)), some (.val ((eT eI) x3)), some (.val (eI s6))] (St.last (St.bind (Eo.dget (Eg.varO (i := 2) rfl) (Eg.bits (Eg.varB (i := 4) rfl))) fun v9 hv9 =>
  (St.set (es := fun z => .val (eI z)) (Eg.xv (Eg.xor (Eg.varB (i := 4) rfl) hv9)) fun mask_10 =>
  (St.at [some (.val (eI a_n)), some (.val ((eT (eT eI)) a_sums)), some (.own ((eA eI) s2)), some (.val ((eT eI) x3)), some (.val (eI mask_10))] (St.nx fun Γ m => m.sub (.s (.s (.s (.s (.s .n)))))))))))) fun s6 =>
  (St.at [some (.val (eI a_n)), some (.val ((eT (eT eI)) a_sums)), some (.own ((eA eI) s2)), some (.val ((eT eI) x3)), some (.val (eI s6))] (St.last (St.ifd (Eg.truI (Eg.varB (i := 4) rfl))
  (St.put (e0 := eI) rfl (Eg.bits (Eg.varB (i := 4) rfl)) (Eg.var (i := 4) rfl) fun heads_8 =>
  (St.at [some (.val (eI a_n)), some (.val ((eT (eT eI)) a_sums)), some (.own ((eA eI) heads_8)), some (.val ((eT eI) x3)), some (.val (eI s6))] (St.nx fun Γ m => m.sub (.s (.s (.s (.a (.a .n))))))))
  (St.skip (St.nx fun Γ m => m.sub (.s (.s (.s (.a (.a .n)))))))))))))))) fun s2 =>
  (St.at [some (.val (eI a_n)), some (.val ((eT (eT eI)) a_sums)), some (.own ((eA eI) s2)), none, none] (St.ret (Eg.sub (Eg.varB (i := 0) rfl) (Eg.lenD (Eg.varO (i := 2) rfl))))))))
noncomputable def t_parity_of (a_row : (List Int)) (a_bits : (List Int)) : Option Int := tRun
  (tBind (tBind (tAllO (fun x1 => (some (Builtin.bitAnd x1.1 x1.2))) (tZip a_row a_bits)) tLim) fun v2 =>
  (some (.rt (iMod (tSum v2) (Int.ofNat 2)))))
theorem T_parity_of (a_row : (List Int)) (a_bits : (List Int)) : ∀ r, t_parity_of a_row a_bits = some r → m_parity_of [(eT eI) a_row, (eT eI) a_bits] = some (eI r) := fun r h =>
  fn_t (ss := [some (.val ((eT eI) a_row)), some (.val ((eT eI) a_bits)), none, none]) (e := eI) (b := b_parity_of) h rfl (.s (.s (.a (.a .n)))) (St.bind (Eo.lcm (ex := (eP2 eI eI)) (Eg.zipCT (Eg.var (i := 0) rfl) (Eg.var (i := 1) rfl)) (fun x1 => (Tg.p2 Tg.n Tg.n)) (fun x1 => (Eo.ret (e := eI) (Eg.bitAnd (Eg.varB (i := 2) rfl) (Eg.varB (i := 3) rfl))))) fun v2 hv2 =>
  (St.ret (Eg.mod rfl (Eg.sumL hv2) Eg.ci)))
noncomputable def t_squeezed (a_table : (List (List Int))) (a_bits : (List Int)) : Option (List Int) := tRun
  (tBind (tBind (tAllO (fun x1 => (t_parity_of x1 a_bits)) a_table) tLim) fun v3 =>
  (some (.rt v3)))
theorem T_squeezed (a_table : (List (List Int))) (a_bits : (List Int)) : ∀ r, t_squeezed a_table a_bits = some r → m_squeezed [(eT (eT eI)) a_table, (eT eI) a_bits] = some ((eT eI) r) := fun r h =>
  fn_t (ss := [some (.val ((eT (eT eI)) a_table)), some (.val ((eT eI) a_bits)), none]) (e := (eT eI)) (b := b_squeezed) h rfl (.s (.s (.a .n))) (St.bind (Eo.lcm (ex := (eT eI)) (Eg.itT (Eg.var (i := 0) rfl)) (fun x1 => Tg.n) (fun x1 => (Eo.call (T_parity_of _ _) (Eg.ac (Eg.var (i := 2) rfl) (Eg.ac (Eg.var (i := 1) rfl) Eg.a0))))) fun v3 hv3 =>
  (St.ret (Eg.tupL hv3)))
noncomputable def t_settled_places (a_table : (List (List Int))) (a_message : (List Int)) : Option (Option (List (Int × ((List Int) × Int)))) := tRun
  (tLet ([] : (List (Int × (Int × Int)))) fun heads_1 =>
  (tLp (yFor (fun (s2 : (List (Int × (Int × Int)))) (x3 : ((List Int) × Int)) =>
  (tBind (t_mask_of x3.1) fun v12 =>
  (tLet v12 fun mask_13 =>
  (tLp (tWh (fun s14 : (Int × Int) => (some (bAnd (bNot (iEq s14.2 (Int.ofNat 0))) (tSome (tFnd iEq s2 (tBits s14.2)))))) (fun s14 : (Int × Int) =>
  (tBind (tFnd iEq s2 (tBits s14.2)) fun v17 =>
  (tLet v17 fun p18 =>
  (tLet (Builtin.bitXor s14.2 p18.1) fun mask_19 =>
  (tLet (Builtin.bitXor s14.1 p18.2) fun bit_20 =>
  (some (.nx (bit_20, mask_19)))))))) 2000 (x3.2, mask_13)) fun s14 =>
  (bIf (bNot (iEq s14.2 (Int.ofNat 0)))
  (tBind (tPut iEq s2 (tBits s14.2) (s14.2, s14.1)) fun heads_16 =>
  (some (.nx heads_16)))
  (bIf (bNot (iEq s14.1 (Int.ofNat 0)))
  (some (.rt none))
  (some (.nx s2)))))))) (tZip a_table a_message) heads_1) fun s2 =>
  (tLet ([] : (List (Int × ((List Int) × Int)))) fun settled_4 =>
  (tLp (yFor (fun (s5 : (List (Int × ((List Int) × Int)))) (x6 : (Int × (Int × Int))) =>
  (tBind (tRng (Int.ofNat 0) (iSub x6.1 (Int.ofNat 1))) fun v8 =>
  (tBind (tBind (tFilO (fun x9 => (tBind (tShr x6.2.1 x9) fun v10 => (some (bNot (iEq (Builtin.bitAnd v10 (Int.ofNat 1)) (Int.ofNat 0)))))) (fun x9 => (some x9)) v8) tLim) fun v11 =>
  (tBind (tPut iEq s5 (iSub x6.1 (Int.ofNat 1)) (v11, x6.2.2)) fun settled_7 =>
  (some (.nx settled_7)))))) s2 settled_4) fun s5 =>
  (some (.rt (some s5)))))))
theorem T_settled_places (a_table : (List (List Int))) (a_message : (List Int)) : ∀ r, t_settled_places a_table a_message = some r → m_settled_places [(eT (eT eI)) a_table, (eT eI) a_message] = some ((eO (eA (eP2 (eL eI) eI))) r) := fun r h =>
  fn_t (ss := [some (.val ((eT (eT eI)) a_table)), some (.val ((eT eI) a_message)), none, none, none, none, none, none, none, none, none]) (e := (eO (eA (eP2 (eL eI) eI)))) (b := b_settled_places) h rfl (.s (.s (.a (.a (.a (.a (.a (.a (.a (.a (.a .n))))))))))) (St.set (es := fun z => .own ((eA (eP2 eI eI)) z)) (Eg.xo (Eg.dnew (e := (eP2 eI eI)))) fun heads_1 =>
  (St.at [some (.val ((eT (eT eI)) a_table)), some (.val ((eT eI) a_message)), some (.own ((eA (eP2 eI eI)) heads_1)), none, none, none, none, none, none, none, none] (St.for (S := (fun s2 : (List (Int × (Int × Int))) => [some (.val ((eT (eT eI)) a_table)), some (.val ((eT eI) a_message)), some (.own ((eA (eP2 eI eI)) s2)), none, none, none, none, none, none, none, none])) (ex := (eP2 (eT eI) eI)) (Eg.zipCT (Eg.var (i := 0) rfl) (Eg.var (i := 1) rfl)) (.s (.s (.s (.a (.a (.a (.a (.a (.a (.a (.a .n))))))))))) (fun s2 x3 => (Tg.p2 Tg.n Tg.n)) (fun s2 x3 => (St.at [some (.val ((eT (eT eI)) a_table)), some (.val ((eT eI) a_message)), some (.own ((eA (eP2 eI eI)) s2)), some (.val ((eT eI) x3.1)), some (.val (eI x3.2)), none, none, none, none, none, none] (St.bind (Eo.call (T_mask_of _) (Eg.ac (Eg.var (i := 3) rfl) Eg.a0)) fun v12 hv12 =>
  (St.set (es := fun z => .val (eI z)) (Eg.xv hv12) fun mask_13 =>
  (St.at [some (.val ((eT (eT eI)) a_table)), some (.val ((eT eI) a_message)), some (.own ((eA (eP2 eI eI)) s2)), some (.val ((eT eI) x3.1)), some (.val (eI x3.2)), some (.val (eI mask_13)), none, none, none, none, none] (St.wh (S := (fun s14 : (Int × Int) => [some (.val ((eT (eT eI)) a_table)), some (.val ((eT eI) a_message)), some (.own ((eA (eP2 eI eI)) s2)), some (.val ((eT eI) x3.1)), some (.val (eI s14.1)), some (.val (eI s14.2)), none, none, none, none, none])) (.s (.s (.s (.s (.s (.s (.a (.a (.a (.a (.a .n))))))))))) (fun s14 => (Eo.ret (e := fun b : Bool => b) (Eg.tand (Eg.truI (Eg.varB (i := 5) rfl)) (Eg.tb (Eg.inD (Eg.bits (Eg.varB (i := 5) rfl)) (Eg.varO (i := 2) rfl)))))) (fun s14 => (St.at [some (.val ((eT (eT eI)) a_table)), some (.val ((eT eI) a_message)), some (.own ((eA (eP2 eI eI)) s2)), some (.val ((eT eI) x3.1)), some (.val (eI s14.1)), some (.val (eI s14.2)), none, none, none, none, none] (St.bind (Eo.dget (Eg.varO (i := 2) rfl) (Eg.bits (Eg.varB (i := 5) rfl))) fun v17 hv17 =>
  (St.tg (es := (eP2 eI eI)) hv17 (fun p18 => (Tg.p2 Tg.n Tg.n)) fun p18 =>
  (St.at [some (.val ((eT (eT eI)) a_table)), some (.val ((eT eI) a_message)), some (.own ((eA (eP2 eI eI)) s2)), some (.val ((eT eI) x3.1)), some (.val (eI s14.1)), some (.val (eI s14.2)), some (.val (eI p18.1)), some (.val (eI p18.2)), none, none, none] (St.set (es := fun z => .val (eI z)) (Eg.xv (Eg.xor (Eg.varB (i := 5) rfl) (Eg.varB (i := 6) rfl))) fun mask_19 =>
  (St.at [some (.val ((eT (eT eI)) a_table)), some (.val ((eT eI) a_message)), some (.own ((eA (eP2 eI eI)) s2)), some (.val ((eT eI) x3.1)), some (.val (eI s14.1)), some (.val (eI mask_19)), some (.val (eI p18.1)), some (.val (eI p18.2)), none, none, none] (St.last (St.set (es := fun z => .val (eI z)) (Eg.xv (Eg.xor (Eg.varB (i := 4) rfl) (Eg.varB (i := 7) rfl))) fun bit_20 =>
  (St.at [some (.val ((eT (eT eI)) a_table)), some (.val ((eT eI) a_message)), some (.own ((eA (eP2 eI eI)) s2)), some (.val ((eT eI) x3.1)), some (.val (eI bit_20)), some (.val (eI mask_19)), some (.val (eI p18.1)), some (.val (eI p18.2)), none, none, none] (St.nx fun Γ m => m.sub (.s (.s (.s (.s (.s (.s (.a (.a (.a (.a (.a .n)))))))))))))))))))))) fun s14 =>
  (St.at [some (.val ((eT (eT eI)) a_table)), some (.val ((eT eI) a_message)), some (.own ((eA (eP2 eI eI)) s2)), some (.val ((eT eI) x3.1)), some (.val (eI s14.1)), some (.val (eI s14.2)), none, none, none, none, none] (St.last (St.ifd (Eg.truI (Eg.varB (i := 5) rfl))
  (St.put (e0 := (eP2 eI eI)) rfl (Eg.bits (Eg.varB (i := 5) rfl)) (Eg.p2 (e := eI) (f := eI) (Eg.var (i := 5) rfl) (Eg.var (i := 4) rfl)) fun heads_16 =>
  (St.at [some (.val ((eT (eT eI)) a_table)), some (.val ((eT eI) a_message)), some (.own ((eA (eP2 eI eI)) heads_16)), some (.val ((eT eI) x3.1)), some (.val (eI s14.1)), some (.val (eI s14.2)), none, none, none, none, none] (St.nx fun Γ m => m.sub (.s (.s (.s (.a (.a (.a (.a (.a (.a (.a (.a .n))))))))))))))
  (St.ifd (Eg.truI (Eg.varB (i := 4) rfl))
  (St.cut (St.ret (Eg.cn (e := (eA (eP2 (eL eI) eI))))))
  (St.skip (St.nx fun Γ m => m.sub (.s (.s (.s (.a (.a (.a (.a (.a (.a (.a (.a .n))))))))))))))))))))))) fun s2 =>
  (St.at [some (.val ((eT (eT eI)) a_table)), some (.val ((eT eI) a_message)), some (.own ((eA (eP2 eI eI)) s2)), none, none, none, none, none, none, none, none] (St.set (es := fun z => .own ((eA (eP2 (eL eI) eI)) z)) (Eg.xo (Eg.dnew (e := (eP2 (eL eI) eI)))) fun settled_4 =>
  (St.at [some (.val ((eT (eT eI)) a_table)), some (.val ((eT eI) a_message)), some (.own ((eA (eP2 eI eI)) s2)), none, none, none, none, none, some (.own ((eA (eP2 (eL eI) eI)) settled_4)), none, none] (St.frz rfl (St.at [some (.val ((eT (eT eI)) a_table)), some (.val ((eT eI) a_message)), some (.val ((eA (eP2 eI eI)) s2)), none, none, none, none, none, some (.own ((eA (eP2 (eL eI) eI)) settled_4)), none, none] (St.for (S := (fun s5 : (List (Int × ((List Int) × Int))) => [some (.val ((eT (eT eI)) a_table)), some (.val ((eT eI) a_message)), some (.val ((eA (eP2 eI eI)) s2)), none, none, none, none, none, some (.own ((eA (eP2 (eL eI) eI)) s5)), none, none])) (ex := (eP2 eI (eP2 eI eI))) (Eg.items (Eg.var (i := 2) rfl)) (.s (.s (.s (.a (.a (.a (.a (.a (.s (.a (.a .n))))))))))) (fun s5 x6 => (Tg.p2 Tg.n (Tg.p2 Tg.n Tg.n))) (fun s5 x6 => (St.at [some (.val ((eT (eT eI)) a_table)), some (.val ((eT eI) a_message)), some (.val ((eA (eP2 eI eI)) s2)), none, some (.val (eI x6.2.2)), some (.val (eI x6.2.1)), none, none, some (.own ((eA (eP2 (eL eI) eI)) s5)), some (.val (eI x6.1)), none] (St.last (St.bind (Eo.rng1 (Eg.sub (Eg.varB (i := 9) rfl) Eg.ci)) fun v8 hv8 =>
  (St.bind (Eo.lcc (ex := eI) hv8 (fun x9 => Tg.n) (fun x9 => (Eo.bind (Eo.shr (Eg.varB (i := 5) rfl) (Eg.varB (i := 10) rfl)) fun v10 hv10 => (Eo.ret (e := fun b : Bool => b) (Eg.truI (Eg.bitAnd hv10 Eg.ci))))) (fun x9 => (Eo.ret (e := eI) (Eg.var (i := 10) rfl)))) fun v11 hv11 =>
  (St.put (e0 := (eP2 (eL eI) eI)) rfl (Eg.sub (Eg.varB (i := 9) rfl) Eg.ci) (Eg.p2 (e := (eL eI)) (f := eI) hv11 (Eg.var (i := 4) rfl)) fun settled_7 =>
  (St.at [some (.val ((eT (eT eI)) a_table)), some (.val ((eT eI) a_message)), some (.val ((eA (eP2 eI eI)) s2)), none, some (.val (eI x6.2.2)), some (.val (eI x6.2.1)), none, none, some (.own ((eA (eP2 (eL eI) eI)) settled_7)), some (.val (eI x6.1)), none] (St.nx fun Γ m => m.sub (.s (.s (.s (.a (.a (.a (.a (.a (.s (.a (.a .n))))))))))))))))))) fun s5 =>
  (St.at [some (.val ((eT (eT eI)) a_table)), some (.val ((eT eI) a_message)), some (.val ((eA (eP2 eI eI)) s2)), none, none, none, none, none, some (.own ((eA (eP2 (eL eI) eI)) s5)), none, none] (St.last (St.frz rfl (St.at [some (.val ((eT (eT eI)) a_table)), some (.val ((eT eI) a_message)), some (.val ((eA (eP2 eI eI)) s2)), none, none, none, none, none, some (.val ((eA (eP2 (eL eI) eI)) s5)), none, none] (St.cut (St.ret (Eg.sm (e := (eA (eP2 (eL eI) eI))) (Eg.var (i := 8) rfl)))))))))))))))))
noncomputable def t_coset_words (a_table : (List (List Int))) (a_message : (List Int)) : Option (List (List Int)) := tRun
  (tBind (t_settled_places a_table a_message) fun v1 =>
  (tLet v1 fun settled_2 =>
  (bIf (oIsN settled_2)
  (some (.rt ([] : (List (List Int)))))
  (tLet [([] : (List Int))] fun rows_3 =>
  (tBind (bIf (bNot (tEmp a_table)) (tBind (tIx a_table (Int.ofNat 0)) fun v4 => (some (iLen v4))) (some (Int.ofNat 0))) fun v5 =>
  (tBind (tRng (Int.ofNat 0) v5) fun v6 =>
  (tLp (yFor (fun (s7 : (List (List Int))) (x8 : Int) =>
  (tBind settled_2 fun v9 =>
  (bIf (tSome (tFnd iEq v9 x8))
  (tBind settled_2 fun v10 =>
  (tBind (tFnd iEq v10 x8) fun v11 =>
  (tLet v11 fun p12 =>
  (tBind (tBind (tAllO (fun x13 => (tBind (tBind (tAllO (fun x14 => (tIx x13 x14)) p12.1) tLim) fun v16 => (tLim (tCat x13 [(iMod (iAdd (tSum v16) p12.2) (Int.ofNat 2))])))) s7) tLim) fun v18 =>
  (tLet v18 fun rows_19 =>
  (some (.nx rows_19)))))))
  (tBind (tBind (tFlat (fun x20 => (some true)) (fun x20 => tBind (some [(Int.ofNat 0), (Int.ofNat 1)]) fun zs => tFilO (fun y21 => (some true)) (fun y21 => (tLim (tCat x20 [y21]))) zs) s7) tLim) fun v23 =>
  (tLet v23 fun rows_24 =>
  (some (.nx rows_24))))))) v6 rows_3) fun s7 =>
  (some (.rt s7)))))))))
theorem T_coset_words (a_table : (List (List Int))) (a_message : (List Int)) : ∀ r, t_coset_words a_table a_message = some r → m_coset_words [(eT (eT eI)) a_table, (eT eI) a_message] = some ((eT (eT eI)) r) := fun r h =>
  fn_t (ss := [some (.val ((eT (eT eI)) a_table)), some (.val ((eT eI) a_message)), none, none, none, none, none, none, none]) (e := (eT (eT eI))) (b := b_coset_words) h rfl (.s (.s (.a (.a (.a (.a (.a (.a (.a .n))))))))) (St.bind (Eo.call (T_settled_places _ _) (Eg.ac (Eg.var (i := 0) rfl) (Eg.ac (Eg.var (i := 1) rfl) Eg.a0))) fun v1 hv1 =>
  (St.set (es := fun z => .val ((eO (eA (eP2 (eL eI) eI))) z)) (Eg.xv hv1) fun settled_2 =>
  (St.at [some (.val ((eT (eT eI)) a_table)), some (.val ((eT eI) a_message)), some (.val ((eO (eA (eP2 (eL eI) eI))) settled_2)), none, none, none, none, none, none] (St.ifd (Eg.tb (Eg.isN nnA (Eg.varB (i := 2) rfl)))
  (St.cut (St.ret (Eg.tl (Eg.l0 (e := (eT eI))) rfl)))
  (St.skip (St.set (es := fun z => .val ((eL (eT eI)) z)) (Eg.xv (Eg.ll (Eg.lc (Eg.tl (Eg.l0 (e := eI)) rfl) (Eg.l0 (e := (eT eI)))) rfl)) fun rows_3 =>
  (St.at [some (.val ((eT (eT eI)) a_table)), some (.val ((eT eI) a_message)), some (.val ((eO (eA (eP2 (eL eI) eI))) settled_2)), some (.val ((eL (eT eI)) rows_3)), none, none, none, none, none] (St.bind (Eo.ifx (Eg.truT (Eg.varB (i := 0) rfl)) (Eo.bind (Eo.ixT (Eg.varB (i := 0) rfl) Eg.ci) fun v4 hv4 => (Eo.ret (e := eI) (Eg.lenT hv4))) (Eo.ret (e := eI) Eg.ci)) fun v5 hv5 =>
  (St.bind (Eo.rng1 hv5) fun v6 hv6 =>
  (St.for (S := (fun s7 : (List (List Int)) => [some (.val ((eT (eT eI)) a_table)), some (.val ((eT eI) a_message)), some (.val ((eO (eA (eP2 (eL eI) eI))) settled_2)), some (.val ((eL (eT eI)) s7)), none, none, none, none, none])) (ex := eI) hv6 (.s (.s (.s (.s (.a (.a (.a (.a (.a .n))))))))) (fun s7 x8 => Tg.n) (fun s7 x8 => (St.at [some (.val ((eT (eT eI)) a_table)), some (.val ((eT eI) a_message)), some (.val ((eO (eA (eP2 (eL eI) eI))) settled_2)), some (.val ((eL (eT eI)) s7)), some (.val (eI x8)), none, none, none, none] (St.last (St.bind (Eo.get (e := (eA (eP2 (eL eI) eI))) (Eg.varB (i := 2) rfl)) fun v9 hv9 =>
  (St.ifd (Eg.tb (Eg.inD (Eg.varB (i := 4) rfl) hv9))
  (St.assoc (by rw [sSq_nil]; exact (St.bind (Eo.get (e := (eA (eP2 (eL eI) eI))) (Eg.varB (i := 2) rfl)) fun v10 hv10 =>
  (St.bind (Eo.dget hv10 (Eg.varB (i := 4) rfl)) fun v11 hv11 =>
  (St.tg (es := (eP2 (eL eI) eI)) hv11 (fun p12 => (Tg.p2 Tg.n Tg.n)) fun p12 =>
  (St.at [some (.val ((eT (eT eI)) a_table)), some (.val ((eT eI) a_message)), some (.val ((eO (eA (eP2 (eL eI) eI))) settled_2)), some (.val ((eL (eT eI)) s7)), some (.val (eI x8)), some (.val ((eL eI) p12.1)), some (.val (eI p12.2)), none, none] (St.last (St.bind (Eo.lcm (ex := (eT eI)) (Eg.itL (Eg.var (i := 3) rfl)) (fun x13 => Tg.n) (fun x13 => (Eo.bind (Eo.lcm (ex := eI) (Eg.itL (Eg.var (i := 5) rfl)) (fun x14 => Tg.n) (fun x14 => (Eo.ixT (Eg.varB (i := 7) rfl) (Eg.varB (i := 8) rfl)))) fun v16 hv16 => (Eo.catT (Eg.varB (i := 7) rfl) (Eg.tl (Eg.lc (Eg.mod rfl (Eg.add (Eg.sumL hv16) (Eg.varB (i := 6) rfl)) Eg.ci) (Eg.l0 (e := eI))) rfl))))) fun v18 hv18 =>
  (St.setF (es := (eL (eT eI))) hv18 fun rows_19 =>
  (St.at [some (.val ((eT (eT eI)) a_table)), some (.val ((eT eI) a_message)), some (.val ((eO (eA (eP2 (eL eI) eI))) settled_2)), some (.val ((eL (eT eI)) rows_19)), some (.val (eI x8)), some (.val ((eL eI) p12.1)), some (.val (eI p12.2)), none, none] (St.nx fun Γ m => m.sub (.s (.s (.s (.s (.a (.a (.a (.a (.a .n))))))))))))))))))))
  (St.bind (Eo.lc2 (ex := (eT eI)) (ex1 := eI) (q := fun x20 y21 => (some true)) (f := fun x20 y21 => (tLim (tCat x20 [y21]))) (Eg.itL (Eg.var (i := 3) rfl)) (fun x20 => Tg.n) (fun x20 => Eo.yes) (fun x20 => (Eo.ret (e := List.map eI) (Eg.itT (Eg.tl (Eg.lc Eg.ci (Eg.lc Eg.ci (Eg.l0 (e := eI)))) rfl)))) (fun x20 y21 => Tg.n) (fun x20 y21 => Eo.yes) (fun x20 y21 => (Eo.catT (Eg.varB (i := 7) rfl) (Eg.tl (Eg.lc (Eg.var (i := 6) rfl) (Eg.l0 (e := eI))) rfl)))) fun v23 hv23 =>
  (St.setF (es := (eL (eT eI))) hv23 fun rows_24 =>
  (St.at [some (.val ((eT (eT eI)) a_table)), some (.val ((eT eI) a_message)), some (.val ((eO (eA (eP2 (eL eI) eI))) settled_2)), some (.val ((eL (eT eI)) rows_24)), some (.val (eI x8)), none, none, none, none] (St.nx fun Γ m => m.sub (.s (.s (.s (.s (.a (.a (.a (.a (.a .n)))))))))))))))))) fun s7 =>
  (St.at [some (.val ((eT (eT eI)) a_table)), some (.val ((eT eI) a_message)), some (.val ((eO (eA (eP2 (eL eI) eI))) settled_2)), some (.val ((eL (eT eI)) s7)), none, none, none, none, none] (St.ret (Eg.tupL (Eg.varB (i := 3) rfl))))))))))))))
noncomputable def t_lacks_of (a_table : (List (List Int))) (a_bits : (List Int)) (a_message : (List Int)) : Option (List Int) := tRun
  (tBind (tBind (tAllO (fun x1 => (tBind (tBind (tAllO (fun x2 => (yMul x2.1 x2.2)) (tZip x1.1 a_bits)) tLim) fun v4 => (some (iMod (iAdd (tSum v4) x1.2) (Int.ofNat 2))))) (tZip a_table a_message)) tLim) fun v5 =>
  (some (.rt v5)))
theorem T_lacks_of (a_table : (List (List Int))) (a_bits : (List Int)) (a_message : (List Int)) : ∀ r, t_lacks_of a_table a_bits a_message = some r → m_lacks_of [(eT (eT eI)) a_table, (eT eI) a_bits, (eT eI) a_message] = some ((eT eI) r) := fun r h =>
  fn_t (ss := [some (.val ((eT (eT eI)) a_table)), some (.val ((eT eI) a_bits)), some (.val ((eT eI) a_message)), none, none, none, none]) (e := (eT eI)) (b := b_lacks_of) h rfl (.s (.s (.s (.a (.a (.a (.a .n))))))) (St.bind (Eo.lcm (ex := (eP2 (eT eI) eI)) (Eg.zipCT (Eg.var (i := 0) rfl) (Eg.var (i := 2) rfl)) (fun x1 => (Tg.p2 Tg.n Tg.n)) (fun x1 => (Eo.bind (Eo.lcm (ex := (eP2 eI eI)) (Eg.zipCT (Eg.var (i := 3) rfl) (Eg.var (i := 1) rfl)) (fun x2 => (Tg.p2 Tg.n Tg.n)) (fun x2 => (Eo.mul (Eg.varB (i := 5) rfl) (Eg.varB (i := 6) rfl)))) fun v4 hv4 => (Eo.ret (e := eI) (Eg.mod rfl (Eg.add (Eg.sumL hv4) (Eg.varB (i := 4) rfl)) Eg.ci))))) fun v5 hv5 =>
  (St.ret (Eg.tupL hv5)))
noncomputable def t_least_changes (a_table : (List (List Int))) (a_lacks : (List Int)) (a_places : (List Int)) : Option (Option (List Int)) := tRun
  (tBind (t_all_sets (iLen a_places)) fun v1 =>
  (tBind (tSortSz v1) fun v2 =>
  (tLp (yFor (fun (s3 : Unit) (x4 : (List Int)) =>
  (tBind (tBind (tAllO (fun x5 => (tIx a_places x5)) x4) tLim) fun v7 =>
  (tLet v7 fun chosen_8 =>
  (tBind (tBind (tAllO (fun x9 => (tBind (tBind (tAllO (fun x10 => (tIx x9.1 x10)) chosen_8) tLim) fun v12 => (some (iEq (iMod (tSum v12) (Int.ofNat 2)) x9.2)))) (tZip a_table a_lacks)) tLim) fun v13 =>
  (bIf (tAllB v13)
  (some (.rt (some chosen_8)))
  (some (.nx ()))))))) v2 ()) fun s3 =>
  (some (.rt none)))))
theorem T_least_changes (a_table : (List (List Int))) (a_lacks : (List Int)) (a_places : (List Int)) : ∀ r, t_least_changes a_table a_lacks a_places = some r → m_least_changes [(eT (eT eI)) a_table, (eT eI) a_lacks, (eT eI) a_places] = some ((eO (eT eI)) r) := fun r h =>
  fn_t (ss := [some (.val ((eT (eT eI)) a_table)), some (.val ((eT eI) a_lacks)), some (.val ((eT eI) a_places)), none, none, none, none, none, none]) (e := (eO (eT eI))) (b := b_least_changes) h rfl (.s (.s (.s (.a (.a (.a (.a (.a (.a .n))))))))) (St.bind (Eo.call (T_all_sets _) (Eg.ac (Eg.lenT (Eg.varB (i := 2) rfl)) Eg.a0)) fun v1 hv1 =>
  (St.bind (Eo.sortSz hv1) fun v2 hv2 =>
  (St.for (S := (fun s3 : Unit => [some (.val ((eT (eT eI)) a_table)), some (.val ((eT eI) a_lacks)), some (.val ((eT eI) a_places)), none, none, none, none, none, none])) (ex := (eT eI)) (Eg.itL hv2) (.s (.s (.s (.a (.a (.a (.a (.a (.a .n))))))))) (fun s3 x4 => Tg.n) (fun s3 x4 => (St.at [some (.val ((eT (eT eI)) a_table)), some (.val ((eT eI) a_lacks)), some (.val ((eT eI) a_places)), some (.val ((eT eI) x4)), none, none, none, none, none] (St.bind (Eo.lcm (ex := eI) (Eg.itT (Eg.var (i := 3) rfl)) (fun x5 => Tg.n) (fun x5 => (Eo.ixT (Eg.varB (i := 2) rfl) (Eg.varB (i := 5) rfl)))) fun v7 hv7 =>
  (St.set (es := fun z => .val ((eL eI) z)) (Eg.xv hv7) fun chosen_8 =>
  (St.at [some (.val ((eT (eT eI)) a_table)), some (.val ((eT eI) a_lacks)), some (.val ((eT eI) a_places)), some (.val ((eT eI) x4)), some (.val ((eL eI) chosen_8)), none, none, none, none] (St.last (St.bind (Eo.lcm (ex := (eP2 (eT eI) eI)) (Eg.zipCT (Eg.var (i := 0) rfl) (Eg.var (i := 1) rfl)) (fun x9 => (Tg.p2 Tg.n Tg.n)) (fun x9 => (Eo.bind (Eo.lcm (ex := eI) (Eg.itL (Eg.var (i := 4) rfl)) (fun x10 => Tg.n) (fun x10 => (Eo.ixT (Eg.varB (i := 6) rfl) (Eg.varB (i := 8) rfl)))) fun v12 hv12 => (Eo.ret (e := eB) (Eg.eqq eqI rfl (Eg.mod rfl (Eg.sumL hv12) Eg.ci) (Eg.varB (i := 7) rfl)))))) fun v13 hv13 =>
  (St.ifd (Eg.tru (Eg.all hv13))
  (St.cut (St.ret (Eg.sm (e := (eT eI)) (Eg.tupL (Eg.varB (i := 4) rfl)))))
  (St.skip (St.nx fun Γ m => m.sub (.s (.s (.s (.a (.a (.a (.a (.a (.a .n))))))))))))))))))) fun s3 =>
  (St.at [some (.val ((eT (eT eI)) a_table)), some (.val ((eT eI) a_lacks)), some (.val ((eT eI) a_places)), none, none, none, none, none, none] (St.ret (Eg.cn (e := (eT eI))))))))
noncomputable def t_changes_needed (a_table : (List (List Int))) (a_bits : (List Int)) (a_message : (List Int)) : Option (Option (Int × (List Int))) := tRun
  (tBind (t_lacks_of a_table a_bits a_message) fun v1 =>
  (tBind (tRng (Int.ofNat 0) (iLen a_bits)) fun v2 =>
  (tBind (t_least_changes a_table v1 v2) fun v3 =>
  (tLet v3 fun places_4 =>
  (tBind (bIf (oIsN places_4) (some none) (tBind places_4 fun v5 => (tBind places_4 fun v6 => (some (some ((iLen v5), v6)))))) fun v7 =>
  (some (.rt v7)))))))
theorem T_changes_needed (a_table : (List (List Int))) (a_bits : (List Int)) (a_message : (List Int)) : ∀ r, t_changes_needed a_table a_bits a_message = some r → m_changes_needed [(eT (eT eI)) a_table, (eT eI) a_bits, (eT eI) a_message] = some ((eO (eP2 eI (eT eI))) r) := fun r h =>
  fn_t (ss := [some (.val ((eT (eT eI)) a_table)), some (.val ((eT eI) a_bits)), some (.val ((eT eI) a_message)), none]) (e := (eO (eP2 eI (eT eI)))) (b := b_changes_needed) h rfl (.s (.s (.s (.a .n)))) (St.bind (Eo.call (T_lacks_of _ _ _) (Eg.ac (Eg.var (i := 0) rfl) (Eg.ac (Eg.var (i := 1) rfl) (Eg.ac (Eg.var (i := 2) rfl) Eg.a0)))) fun v1 hv1 =>
  (St.bind (Eo.tupR (Eg.r1 (Eg.lenT (Eg.varB (i := 1) rfl)))) fun v2 hv2 =>
  (St.bind (Eo.call (T_least_changes _ _ _) (Eg.ac (Eg.var (i := 0) rfl) (Eg.ac hv1 (Eg.ac hv2 Eg.a0)))) fun v3 hv3 =>
  (St.set (es := fun z => .val ((eO (eT eI)) z)) (Eg.xv hv3) fun places_4 =>
  (St.at [some (.val ((eT (eT eI)) a_table)), some (.val ((eT eI) a_bits)), some (.val ((eT eI) a_message)), some (.val ((eO (eT eI)) places_4))] (St.bind (Eo.ifx (Eg.tb (Eg.isN nnT (Eg.varB (i := 3) rfl))) (Eo.ret (e := (eO (eP2 eI (eT eI)))) (Eg.cn (e := (eP2 eI (eT eI))))) (Eo.bind (Eo.get (e := (eT eI)) (Eg.varB (i := 3) rfl)) fun v5 hv5 => (Eo.bind (Eo.get (e := (eT eI)) (Eg.var (i := 3) rfl)) fun v6 hv6 => (Eo.ret (e := (eO (eP2 eI (eT eI)))) (Eg.sm (e := (eP2 eI (eT eI))) (Eg.p2 (e := eI) (f := (eT eI)) (Eg.lenT hv5) hv6)))))) fun v7 hv7 =>
  (St.ret hv7)))))))
noncomputable def t__law_bits (a_count : Int) : Option (List (List Int)) := tRun
  (tLet [([] : (List Int))] fun rows_1 =>
  (tBind (tRng (Int.ofNat 0) a_count) fun v2 =>
  (tLp (yFor (fun (s3 : (List (List Int))) (x4 : Int) =>
  (tLet ([] : (List (List Int))) fun grown_5 =>
  (tLp (yFor (fun (s6 : (List (List Int))) (x7 : (List Int)) =>
  (tBind (tLim (tCat x7 [(Int.ofNat 0)])) fun v10 =>
  (tBind (tLim (tCat x7 [(Int.ofNat 1)])) fun v11 =>
  (tBind (tLim (tCat s6 [v10, v11])) fun grown_9 =>
  (some (.nx grown_9)))))) s3 grown_5) fun s6 =>
  (tLet s6 fun rows_8 =>
  (some (.nx rows_8)))))) v2 rows_1) fun s3 =>
  (some (.rt s3)))))
theorem T__law_bits (a_count : Int) : ∀ r, t__law_bits a_count = some r → m__law_bits [eI a_count] = some ((eL (eT eI)) r) := fun r h =>
  fn_t (ss := [some (.val (eI a_count)), none, none, none, none]) (e := (eL (eT eI))) (b := b__law_bits) h rfl (.s (.a (.a (.a (.a .n))))) (St.set (es := fun z => .val ((eL (eT eI)) z)) (Eg.xv (Eg.ll (Eg.lc (Eg.tl (Eg.l0 (e := eI)) rfl) (Eg.l0 (e := (eT eI)))) rfl)) fun rows_1 =>
  (St.at [some (.val (eI a_count)), some (.val ((eL (eT eI)) rows_1)), none, none, none] (St.bind (Eo.rng1 (Eg.varB (i := 0) rfl)) fun v2 hv2 =>
  (St.for (S := (fun s3 : (List (List Int)) => [some (.val (eI a_count)), some (.val ((eL (eT eI)) s3)), none, none, none])) (ex := eI) hv2 (.s (.s (.a (.a (.a .n))))) (fun s3 x4 => Tg.n) (fun s3 x4 => (St.at [some (.val (eI a_count)), some (.val ((eL (eT eI)) s3)), some (.val (eI x4)), none, none] (St.set (es := fun z => .own ((eL (eT eI)) z)) (Eg.xo (Eg.ll (Eg.l0 (e := (eT eI))) rfl)) fun grown_5 =>
  (St.at [some (.val (eI a_count)), some (.val ((eL (eT eI)) s3)), some (.val (eI x4)), some (.own ((eL (eT eI)) grown_5)), none] (St.for (S := (fun s6 : (List (List Int)) => [some (.val (eI a_count)), some (.val ((eL (eT eI)) s3)), some (.val (eI x4)), some (.own ((eL (eT eI)) s6)), none])) (ex := (eT eI)) (Eg.itL (Eg.var (i := 1) rfl)) (.s (.s (.s (.s (.a .n))))) (fun s6 x7 => Tg.n) (fun s6 x7 => (St.at [some (.val (eI a_count)), some (.val ((eL (eT eI)) s3)), some (.val (eI x4)), some (.own ((eL (eT eI)) s6)), some (.val ((eT eI) x7))] (St.last (St.bind (Eo.catT (Eg.varB (i := 4) rfl) (Eg.tl (Eg.lc Eg.ci (Eg.l0 (e := eI))) rfl)) fun v10 hv10 =>
  (St.bind (Eo.catT (Eg.varB (i := 4) rfl) (Eg.tl (Eg.lc Eg.ci (Eg.l0 (e := eI))) rfl)) fun v11 hv11 =>
  (St.ext (e0 := (eT eI)) rfl (Eg.ll (Eg.lc hv10 (Eg.lc hv11 (Eg.l0 (e := (eT eI))))) rfl) fun grown_9 =>
  (St.at [some (.val (eI a_count)), some (.val ((eL (eT eI)) s3)), some (.val (eI x4)), some (.own ((eL (eT eI)) grown_9)), some (.val ((eT eI) x7))] (St.nx fun Γ m => m.sub (.s (.s (.s (.s (.a .n))))))))))))) fun s6 =>
  (St.at [some (.val (eI a_count)), some (.val ((eL (eT eI)) s3)), some (.val (eI x4)), some (.own ((eL (eT eI)) s6)), none] (St.last (St.frz rfl (St.at [some (.val (eI a_count)), some (.val ((eL (eT eI)) s3)), some (.val (eI x4)), some (.val ((eL (eT eI)) s6)), none] (St.set (es := fun z => .val ((eL (eT eI)) z)) (Eg.xv (Eg.var (i := 3) rfl)) fun rows_8 =>
  (St.at [some (.val (eI a_count)), some (.val ((eL (eT eI)) rows_8)), some (.val (eI x4)), some (.val ((eL (eT eI)) s6)), none] (St.nx fun Γ m => m.sub (.s (.s (.a (.a (.a .n))))))))))))))))) fun s3 =>
  (St.at [some (.val (eI a_count)), some (.val ((eL (eT eI)) s3)), none, none, none] (St.ret (Eg.var (i := 1) rfl)))))))
noncomputable def t__law_choose (a_n : Int) (a_k : Int) : Option Int := tRun
  (tLet (Int.ofNat 1) fun found_1 =>
  (tBind (tRng (Int.ofNat 0) a_k) fun v2 =>
  (tLp (yFor (fun (s3 : Int) (x4 : Int) =>
  (tBind (yMul s3 (iMax (Int.ofNat 0) (iSub a_n x4))) fun v5 =>
  (tBind (tDiv v5 (iAdd x4 (Int.ofNat 1))) fun v6 =>
  (tLet v6 fun found_7 =>
  (some (.nx found_7)))))) v2 found_1) fun s3 =>
  (some (.rt s3)))))
theorem T__law_choose (a_n : Int) (a_k : Int) : ∀ r, t__law_choose a_n a_k = some r → m__law_choose [eI a_n, eI a_k] = some (eI r) := fun r h =>
  fn_t (ss := [some (.val (eI a_n)), some (.val (eI a_k)), none, none]) (e := eI) (b := b__law_choose) h rfl (.s (.s (.a (.a .n)))) (St.set (es := fun z => .val (eI z)) (Eg.xv Eg.ci) fun found_1 =>
  (St.at [some (.val (eI a_n)), some (.val (eI a_k)), some (.val (eI found_1)), none] (St.bind (Eo.rng1 (Eg.varB (i := 1) rfl)) fun v2 hv2 =>
  (St.for (S := (fun s3 : Int => [some (.val (eI a_n)), some (.val (eI a_k)), some (.val (eI s3)), none])) (ex := eI) hv2 (.s (.s (.s (.a .n)))) (fun s3 x4 => Tg.n) (fun s3 x4 => (St.at [some (.val (eI a_n)), some (.val (eI a_k)), some (.val (eI s3)), some (.val (eI x4))] (St.last (St.bind (Eo.mul (Eg.varB (i := 2) rfl) (Eg.max2 Eg.ci (Eg.sub (Eg.varB (i := 0) rfl) (Eg.varB (i := 3) rfl)))) fun v5 hv5 =>
  (St.bind (Eo.div hv5 (Eg.add (Eg.varB (i := 3) rfl) Eg.ci)) fun v6 hv6 =>
  (St.set (es := fun z => .val (eI z)) (Eg.xv hv6) fun found_7 =>
  (St.at [some (.val (eI a_n)), some (.val (eI a_k)), some (.val (eI found_7)), some (.val (eI x4))] (St.nx fun Γ m => m.sub (.s (.s (.s (.a .n)))))))))))) fun s3 =>
  (St.at [some (.val (eI a_n)), some (.val (eI a_k)), some (.val (eI s3)), none] (St.ret (Eg.var (i := 2) rfl)))))))
noncomputable def t__law_sum (a_first : (List Int)) (a_second : (List Int)) : Option (List Int) := tRun
  (tBind (tRng (Int.ofNat 0) (iLen a_first)) fun v1 =>
  (tBind (tBind (tAllO (fun x2 => (tBind (tIx a_first x2) fun v3 => (tBind (tIx a_second x2) fun v4 => (some (Builtin.bitXor v3 v4))))) v1) tLim) fun v5 =>
  (some (.rt v5))))
theorem T__law_sum (a_first : (List Int)) (a_second : (List Int)) : ∀ r, t__law_sum a_first a_second = some r → m__law_sum [(eT eI) a_first, (eT eI) a_second] = some ((eT eI) r) := fun r h =>
  fn_t (ss := [some (.val ((eT eI) a_first)), some (.val ((eT eI) a_second)), none]) (e := (eT eI)) (b := b__law_sum) h rfl (.s (.s (.a .n))) (St.bind (Eo.rng1 (Eg.lenT (Eg.varB (i := 0) rfl))) fun v1 hv1 =>
  (St.bind (Eo.lcm (ex := eI) hv1 (fun x2 => Tg.n) (fun x2 => (Eo.bind (Eo.ixT (Eg.varB (i := 0) rfl) (Eg.varB (i := 2) rfl)) fun v3 hv3 => (Eo.bind (Eo.ixT (Eg.varB (i := 1) rfl) (Eg.varB (i := 2) rfl)) fun v4 hv4 => (Eo.ret (e := eI) (Eg.xor hv3 hv4)))))) fun v5 hv5 =>
  (St.ret (Eg.tupL hv5))))
noncomputable def t__law_even (a_first : (List Int)) (a_second : (List Int)) : Option Int := tRun
  (tBind (tRng (Int.ofNat 0) (iLen a_first)) fun v1 =>
  (tBind (tBind (tAllO (fun x2 => (tBind (tIx a_first x2) fun v3 => (tBind (tIx a_second x2) fun v4 => (yMul v3 v4)))) v1) tLim) fun v6 =>
  (some (.rt (iMod (tSum v6) (Int.ofNat 2))))))
theorem T__law_even (a_first : (List Int)) (a_second : (List Int)) : ∀ r, t__law_even a_first a_second = some r → m__law_even [(eT eI) a_first, (eT eI) a_second] = some (eI r) := fun r h =>
  fn_t (ss := [some (.val ((eT eI) a_first)), some (.val ((eT eI) a_second)), none]) (e := eI) (b := b__law_even) h rfl (.s (.s (.a .n))) (St.bind (Eo.rng1 (Eg.lenT (Eg.varB (i := 0) rfl))) fun v1 hv1 =>
  (St.bind (Eo.lcm (ex := eI) hv1 (fun x2 => Tg.n) (fun x2 => (Eo.bind (Eo.ixT (Eg.varB (i := 0) rfl) (Eg.varB (i := 2) rfl)) fun v3 hv3 => (Eo.bind (Eo.ixT (Eg.varB (i := 1) rfl) (Eg.varB (i := 2) rfl)) fun v4 hv4 => (Eo.mul hv3 hv4))))) fun v6 hv6 =>
  (St.ret (Eg.mod rfl (Eg.int1 (Eg.sumL hv6)) Eg.ci))))
noncomputable def t__law_table (a_row : (List Int)) : Option (List (List Int)) := tRun
  (tBind (tIx a_row (Int.ofNat 0)) fun v1 =>
  (tBind (tIx a_row (Int.ofNat 1)) fun v2 =>
  (tLet (iAdd (Int.ofNat 2) (iMod v1 (Int.ofNat 4))) fun n_3 => (tLet (iAdd (Int.ofNat 1) (iMod v2 (Int.ofNat 3))) fun count_4 => (tLet ([] : (List (List Int))) fun table_5 => (tBind (tRng (Int.ofNat 0) count_4) fun v6 =>
  (tLp (yFor (fun (s7 : (List (List Int))) (x8 : Int) =>
  (tBind (tRng (Int.ofNat 0) n_3) fun v17 =>
  (tBind (tBind (tAllO (fun x18 => (tBind (tIx a_row (iAdd (iAdd (Int.ofNat 2) (iMul (Int.ofNat 5) x8)) x18)) fun v19 => (some (iMod v19 (Int.ofNat 2))))) v17) tLim) fun v20 =>
  (tBind (tApp s7 v20) fun table_16 =>
  (some (.nx table_16)))))) v6 table_5) fun s7 =>
  (tBind (bIf (iEq count_4 (Int.ofNat 3)) (tBind (tIx a_row (Int.ofNat 17)) fun v9 => (some (iEq (iMod v9 (Int.ofNat 3)) (Int.ofNat 1)))) (some false)) fun v10 =>
  (tSq (bIf v10
  (tBind (tIx s7 (Int.ofNat 0)) fun v13 =>
  (tBind (tIx s7 (Int.ofNat 1)) fun v14 =>
  (tBind (t__law_sum v13 v14) fun v15 =>
  (tBind (tSet s7 (Int.ofNat 2) v15) fun table_12 =>
  (some (.nx table_12))))))
  (some (.nx s7))) fun j11 =>
  (some (.rt j11)))))))))))
theorem T__law_table (a_row : (List Int)) : ∀ r, t__law_table a_row = some r → m__law_table [(eL eI) a_row] = some ((eT (eT eI)) r) := fun r h =>
  fn_t (ss := [some (.val ((eL eI) a_row)), none, none, none, none, none]) (e := (eT (eT eI))) (b := b__law_table) h rfl (.s (.a (.a (.a (.a (.a .n)))))) (St.bind (Eo.ixL (Eg.varB (i := 0) rfl) Eg.ci) fun v1 hv1 =>
  (St.bind (Eo.ixL (Eg.varB (i := 0) rfl) Eg.ci) fun v2 hv2 =>
  (St.par3 (es := fun z => .val (eI z)) (et := fun z => .val (eI z)) (eu := fun z => .own ((eL (eT eI)) z)) (Eg.xv (Eg.add Eg.ci (Eg.mod rfl (Eg.int1 hv1) Eg.ci))) (Eg.xv (Eg.add Eg.ci (Eg.mod rfl (Eg.int1 hv2) Eg.ci))) (Eg.xo (Eg.ll (Eg.l0 (e := (eT eI))) rfl)) fun n_3 count_4 table_5 =>
  (St.at [some (.val ((eL eI) a_row)), some (.val (eI n_3)), some (.val (eI count_4)), some (.own ((eL (eT eI)) table_5)), none, none] (St.bind (Eo.rng1 (Eg.varB (i := 2) rfl)) fun v6 hv6 =>
  (St.for (S := (fun s7 : (List (List Int)) => [some (.val ((eL eI) a_row)), some (.val (eI n_3)), some (.val (eI count_4)), some (.own ((eL (eT eI)) s7)), none, none])) (ex := eI) hv6 (.s (.s (.s (.s (.a (.a .n)))))) (fun s7 x8 => Tg.n) (fun s7 x8 => (St.at [some (.val ((eL eI) a_row)), some (.val (eI n_3)), some (.val (eI count_4)), some (.own ((eL (eT eI)) s7)), some (.val (eI x8)), none] (St.last (St.bind (Eo.rng1 (Eg.varB (i := 1) rfl)) fun v17 hv17 =>
  (St.bind (Eo.lcm (ex := eI) hv17 (fun x18 => Tg.n) (fun x18 => (Eo.bind (Eo.ixL (Eg.varB (i := 0) rfl) (Eg.add (Eg.add Eg.ci (Eg.mulL rfl Eg.ci (Eg.varB (i := 4) rfl))) (Eg.varB (i := 5) rfl))) fun v19 hv19 => (Eo.ret (e := eI) (Eg.mod rfl (Eg.int1 hv19) Eg.ci))))) fun v20 hv20 =>
  (St.app (e0 := (eT eI)) rfl (Eg.tupL hv20) fun table_16 =>
  (St.at [some (.val ((eL eI) a_row)), some (.val (eI n_3)), some (.val (eI count_4)), some (.own ((eL (eT eI)) table_16)), some (.val (eI x8)), none] (St.nx fun Γ m => m.sub (.s (.s (.s (.s (.a (.a .n)))))))))))))) fun s7 =>
  (St.at [some (.val ((eL eI) a_row)), some (.val (eI n_3)), some (.val (eI count_4)), some (.own ((eL (eT eI)) s7)), none, none] (St.bind (Eo.tand (Eg.tb (Eg.eqq eqI rfl (Eg.varB (i := 2) rfl) Eg.ci)) (Eo.bind (Eo.ixL (Eg.varB (i := 0) rfl) Eg.ci) fun v9 hv9 => (Eo.ret (e := fun b : Bool => b) (Eg.tb (Eg.eqq eqI rfl (Eg.mod rfl (Eg.int1 hv9) Eg.ci) Eg.ci))))) fun v10 hv10 =>
  (St.iff (S := (fun j11 : (List (List Int)) => [some (.val ((eL eI) a_row)), some (.val (eI n_3)), some (.val (eI count_4)), some (.own ((eL (eT eI)) j11)), none, none])) hv10
  (St.last (St.bind (Eo.ixL (Eg.varO (i := 3) rfl) Eg.ci) fun v13 hv13 =>
  (St.bind (Eo.ixL (Eg.varO (i := 3) rfl) Eg.ci) fun v14 hv14 =>
  (St.bind (Eo.call (T__law_sum _ _) (Eg.ac hv13 (Eg.ac hv14 Eg.a0))) fun v15 hv15 =>
  (St.setIx (e0 := (eT eI)) rfl Eg.ci hv15 fun table_12 =>
  (St.at [some (.val ((eL eI) a_row)), some (.val (eI n_3)), some (.val (eI count_4)), some (.own ((eL (eT eI)) table_12)), none, none] (St.nx fun Γ m => m.sub (.s (.s (.s (.s (.a (.a .n)))))))))))))
  (St.nx fun Γ m => m.sub (.s (.s (.s (.s (.a (.a .n))))))) fun j11 =>
  (St.at [some (.val ((eL eI) a_row)), some (.val (eI n_3)), some (.val (eI count_4)), some (.own ((eL (eT eI)) j11)), none, none] (St.ret (Eg.tupL (Eg.varO (i := 3) rfl)))))))))))))
noncomputable def t__law_made (a_table : (List (List Int))) (a_n : Int) : Option (List ((List Int) × (List Int))) := tRun
  (tLet ([] : (List ((List Int) × (List Int)))) fun pairs_1 =>
  (tBind (t__law_bits (iLen a_table)) fun v2 =>
  (tLp (yFor (fun (s3 : (List ((List Int) × (List Int)))) (x4 : (List Int)) =>
  (tBind (yRep [(Int.ofNat 0)] a_n) fun v5 =>
  (tLet v5 fun row_6 =>
  (tBind (tRng (Int.ofNat 0) (iLen a_table)) fun v7 =>
  (tLp (yFor (fun (s8 : (List Int)) (x9 : Int) =>
  (tBind (tIx x4 x9) fun v11 =>
  (bIf (iEq v11 (Int.ofNat 1))
  (tBind (tIx a_table x9) fun v12 =>
  (tBind (t__law_sum s8 v12) fun v13 =>
  (tLet v13 fun row_14 =>
  (some (.nx row_14)))))
  (some (.nx s8))))) v7 row_6) fun s8 =>
  (tBind (tApp s3 (x4, s8)) fun pairs_10 =>
  (some (.nx pairs_10)))))))) v2 pairs_1) fun s3 =>
  (some (.rt s3)))))
theorem T__law_made (a_table : (List (List Int))) (a_n : Int) : ∀ r, t__law_made a_table a_n = some r → m__law_made [(eT (eT eI)) a_table, eI a_n] = some ((eL (eP2 (eT eI) (eT eI))) r) := fun r h =>
  fn_t (ss := [some (.val ((eT (eT eI)) a_table)), some (.val (eI a_n)), none, none, none, none]) (e := (eL (eP2 (eT eI) (eT eI)))) (b := b__law_made) h rfl (.s (.s (.a (.a (.a (.a .n)))))) (St.set (es := fun z => .own ((eL (eP2 (eT eI) (eT eI))) z)) (Eg.xo (Eg.ll (Eg.l0 (e := (eP2 (eT eI) (eT eI)))) rfl)) fun pairs_1 =>
  (St.at [some (.val ((eT (eT eI)) a_table)), some (.val (eI a_n)), some (.own ((eL (eP2 (eT eI) (eT eI))) pairs_1)), none, none, none] (St.bind (Eo.call (T__law_bits _) (Eg.ac (Eg.lenT (Eg.varB (i := 0) rfl)) Eg.a0)) fun v2 hv2 =>
  (St.for (S := (fun s3 : (List ((List Int) × (List Int))) => [some (.val ((eT (eT eI)) a_table)), some (.val (eI a_n)), some (.own ((eL (eP2 (eT eI) (eT eI))) s3)), none, none, none])) (ex := (eT eI)) (Eg.itL hv2) (.s (.s (.s (.a (.a (.a .n)))))) (fun s3 x4 => Tg.n) (fun s3 x4 => (St.at [some (.val ((eT (eT eI)) a_table)), some (.val (eI a_n)), some (.own ((eL (eP2 (eT eI) (eT eI))) s3)), some (.val ((eT eI) x4)), none, none] (St.bind (Eo.repL (Eg.ll (Eg.lc Eg.ci (Eg.l0 (e := eI))) rfl) (Eg.varB (i := 1) rfl)) fun v5 hv5 =>
  (St.set (es := fun z => .val ((eT eI) z)) (Eg.xv (Eg.tupL hv5)) fun row_6 =>
  (St.at [some (.val ((eT (eT eI)) a_table)), some (.val (eI a_n)), some (.own ((eL (eP2 (eT eI) (eT eI))) s3)), some (.val ((eT eI) x4)), some (.val ((eT eI) row_6)), none] (St.bind (Eo.rng1 (Eg.lenT (Eg.varB (i := 0) rfl))) fun v7 hv7 =>
  (St.for (S := (fun s8 : (List Int) => [some (.val ((eT (eT eI)) a_table)), some (.val (eI a_n)), some (.own ((eL (eP2 (eT eI) (eT eI))) s3)), some (.val ((eT eI) x4)), some (.val ((eT eI) s8)), none])) (ex := eI) hv7 (.s (.s (.s (.s (.s (.a .n)))))) (fun s8 x9 => Tg.n) (fun s8 x9 => (St.at [some (.val ((eT (eT eI)) a_table)), some (.val (eI a_n)), some (.own ((eL (eP2 (eT eI) (eT eI))) s3)), some (.val ((eT eI) x4)), some (.val ((eT eI) s8)), some (.val (eI x9))] (St.last (St.bind (Eo.ixT (Eg.varB (i := 3) rfl) (Eg.varB (i := 5) rfl)) fun v11 hv11 =>
  (St.ifd (Eg.tb (Eg.eqq eqI rfl hv11 Eg.ci))
  (St.bind (Eo.ixT (Eg.varB (i := 0) rfl) (Eg.varB (i := 5) rfl)) fun v12 hv12 =>
  (St.bind (Eo.call (T__law_sum _ _) (Eg.ac (Eg.var (i := 4) rfl) (Eg.ac hv12 Eg.a0))) fun v13 hv13 =>
  (St.set (es := fun z => .val ((eT eI) z)) (Eg.xv hv13) fun row_14 =>
  (St.at [some (.val ((eT (eT eI)) a_table)), some (.val (eI a_n)), some (.own ((eL (eP2 (eT eI) (eT eI))) s3)), some (.val ((eT eI) x4)), some (.val ((eT eI) row_14)), some (.val (eI x9))] (St.nx fun Γ m => m.sub (.s (.s (.s (.s (.s (.a .n)))))))))))
  (St.skip (St.nx fun Γ m => m.sub (.s (.s (.s (.s (.s (.a .n))))))))))))) fun s8 =>
  (St.at [some (.val ((eT (eT eI)) a_table)), some (.val (eI a_n)), some (.own ((eL (eP2 (eT eI) (eT eI))) s3)), some (.val ((eT eI) x4)), some (.val ((eT eI) s8)), none] (St.last (St.app (e0 := (eP2 (eT eI) (eT eI))) rfl (Eg.p2 (e := (eT eI)) (f := (eT eI)) (Eg.var (i := 3) rfl) (Eg.var (i := 4) rfl)) fun pairs_10 =>
  (St.at [some (.val ((eT (eT eI)) a_table)), some (.val (eI a_n)), some (.own ((eL (eP2 (eT eI) (eT eI))) pairs_10)), some (.val ((eT eI) x4)), some (.val ((eT eI) s8)), none] (St.nx fun Γ m => m.sub (.s (.s (.s (.a (.a (.a .n)))))))))))))))))) fun s3 =>
  (St.at [some (.val ((eT (eT eI)) a_table)), some (.val (eI a_n)), some (.own ((eL (eP2 (eT eI) (eT eI))) s3)), none, none, none] (St.last (St.frz rfl (St.at [some (.val ((eT (eT eI)) a_table)), some (.val (eI a_n)), some (.val ((eL (eP2 (eT eI) (eT eI))) s3)), none, none, none] (St.cut (St.ret (Eg.var (i := 2) rfl)))))))))))
noncomputable def t__law_weight (a_row : (List Int)) (a_j : Int) : Option Int := tRun
  (tLet (tSum a_row) fun ones_1 => (tLet (Int.ofNat 0) fun found_2 => (tBind (tRng (Int.ofNat 0) (iAdd a_j (Int.ofNat 1))) fun v3 =>
  (tLp (yFor (fun (s4 : Int) (x5 : Int) =>
  (tBind (t__law_choose ones_1 x5) fun v6 =>
  (tBind (t__law_choose (iSub (iLen a_row) ones_1) (iSub a_j x5)) fun v7 =>
  (tBind (yMul v6 v7) fun v8 =>
  (tLet v8 fun step_9 =>
  (tBind (tIx [(Int.ofNat 1), (iNeg (Int.ofNat 1))] (iMod x5 (Int.ofNat 2))) fun v10 =>
  (tBind (yMul step_9 v10) fun v11 =>
  (tLet (iAdd s4 v11) fun found_12 =>
  (some (.nx found_12)))))))))) v3 found_2) fun s4 =>
  (some (.rt s4))))))
theorem T__law_weight (a_row : (List Int)) (a_j : Int) : ∀ r, t__law_weight a_row a_j = some r → m__law_weight [(eT eI) a_row, eI a_j] = some (eI r) := fun r h =>
  fn_t (ss := [some (.val ((eT eI) a_row)), some (.val (eI a_j)), none, none, none, none]) (e := eI) (b := b__law_weight) h rfl (.s (.s (.a (.a (.a (.a .n)))))) (St.par (es := fun z => .val (eI z)) (et := fun z => .val (eI z)) (Eg.xv (Eg.sumT (Eg.varB (i := 0) rfl))) (Eg.xv Eg.ci) fun ones_1 found_2 =>
  (St.at [some (.val ((eT eI) a_row)), some (.val (eI a_j)), some (.val (eI ones_1)), some (.val (eI found_2)), none, none] (St.bind (Eo.rng1 (Eg.add (Eg.varB (i := 1) rfl) Eg.ci)) fun v3 hv3 =>
  (St.for (S := (fun s4 : Int => [some (.val ((eT eI) a_row)), some (.val (eI a_j)), some (.val (eI ones_1)), some (.val (eI s4)), none, none])) (ex := eI) hv3 (.s (.s (.s (.s (.a (.a .n)))))) (fun s4 x5 => Tg.n) (fun s4 x5 => (St.at [some (.val ((eT eI) a_row)), some (.val (eI a_j)), some (.val (eI ones_1)), some (.val (eI s4)), some (.val (eI x5)), none] (St.bind (Eo.call (T__law_choose _ _) (Eg.ac (Eg.var (i := 2) rfl) (Eg.ac (Eg.var (i := 4) rfl) Eg.a0))) fun v6 hv6 =>
  (St.bind (Eo.call (T__law_choose _ _) (Eg.ac (Eg.sub (Eg.lenT (Eg.varB (i := 0) rfl)) (Eg.varB (i := 2) rfl)) (Eg.ac (Eg.sub (Eg.varB (i := 1) rfl) (Eg.varB (i := 4) rfl)) Eg.a0))) fun v7 hv7 =>
  (St.bind (Eo.mul hv6 hv7) fun v8 hv8 =>
  (St.set (es := fun z => .val (eI z)) (Eg.xv hv8) fun step_9 =>
  (St.at [some (.val ((eT eI) a_row)), some (.val (eI a_j)), some (.val (eI ones_1)), some (.val (eI s4)), some (.val (eI x5)), some (.val (eI step_9))] (St.last (St.bind (Eo.ixT (Eg.tl (Eg.lc Eg.ci (Eg.lc (Eg.neg Eg.ci) (Eg.l0 (e := eI)))) rfl) (Eg.mod rfl (Eg.int1 (Eg.varB (i := 4) rfl)) Eg.ci)) fun v10 hv10 =>
  (St.bind (Eo.mul (Eg.varB (i := 5) rfl) hv10) fun v11 hv11 =>
  (St.set (es := fun z => .val (eI z)) (Eg.xv (Eg.add (Eg.varB (i := 3) rfl) hv11)) fun found_12 =>
  (St.at [some (.val ((eT eI) a_row)), some (.val (eI a_j)), some (.val (eI ones_1)), some (.val (eI found_12)), some (.val (eI x5)), some (.val (eI step_9))] (St.nx fun Γ m => m.sub (.s (.s (.s (.s (.a (.a .n))))))))))))))))))) fun s4 =>
  (St.at [some (.val ((eT eI) a_row)), some (.val (eI a_j)), some (.val (eI ones_1)), some (.val (eI s4)), none, none] (St.ret (Eg.var (i := 3) rfl)))))))
noncomputable def t__law_space_right (a_table : (List (List Int))) (a_n : Int) (a_made : (List ((List Int) × (List Int)))) : Option Bool := tRun
  (tBind (tBind (tAllO (fun x1 => (some (Int.ofNat 0))) a_table) tLim) fun v2 =>
  (tBind (t_parity_left a_n a_table) fun v3 =>
  (tLet v2 fun nothing_4 => (tLet v3 fun free_5 => (tLet (Int.ofNat 1) fun size_6 => (tBind (t_coset_words a_table nothing_4) fun v7 =>
  (tLet v7 fun space_8 =>
  (tBind (t__law_bits a_n) fun v9 =>
  (tBind (tBind (tFilO (fun x10 => (tBind (tBind (tAllO (fun x11 => (tBind (t__law_even x10 x11) fun v12 => (some (iEq v12 (Int.ofNat 1))))) a_table) tLim) fun v13 => (some (bNot (tAnyB v13))))) (fun x10 => (some x10)) v9) tLim) fun v14 =>
  (tLet v14 fun own_15 =>
  (tBind (tLike (lEq (lEq iEq)) (okT okL1) space_8 own_15) fun v16 =>
  (bIf (bOr (bNot v16) (bOr (bNot true) (bOr (iLt free_5 (Int.ofNat 0)) (iLt a_n free_5))))
  (some (.rt false))
  (tBind (tRng (Int.ofNat 0) free_5) fun v17 =>
  (tLp (yFor (fun (s18 : Int) (x19 : Int) =>
  (tLet (iMul (Int.ofNat 2) s18) fun size_33 =>
  (some (.nx size_33)))) v17 size_6) fun s18 =>
  (bIf (bNot (iEq s18 (iLen space_8)))
  (some (.rt false))
  (tBind (tBind (tAllO (fun x20 => (some x20.2)) a_made) tLim) fun v21 =>
  (tBind (tSetT v21) fun v22 =>
  (tLet v22 fun sums_23 =>
  (tBind (tBind (tAllO (fun x24 => (some (Int.ofNat 0))) space_8) tLim) fun v25 =>
  (tBind (t_coset_words space_8 v25) fun v26 =>
  (tBind (tLike (lEq (lEq iEq)) (okT okL1) v26 sums_23) fun v27 =>
  (bIf (bNot v27)
  (some (.rt false))
  (tBind (yMul (iLen sums_23) (iLen space_8)) fun v28 =>
  (tBind (t__law_bits a_n) fun v29 =>
  (tBind (bIf (iEq v28 (iLen v29)) (tBind (t_parity_left a_n space_8) fun v30 => (tBind (tLike iEq okY v30 (iSub a_n free_5)) fun v31 => (some v31))) (some false)) fun v32 =>
  (some (.rt v32)))))))))))))))))))))))))))
theorem T__law_space_right (a_table : (List (List Int))) (a_n : Int) (a_made : (List ((List Int) × (List Int)))) : ∀ r, t__law_space_right a_table a_n a_made = some r → m__law_space_right [(eT (eT eI)) a_table, eI a_n, (eL (eP2 (eT eI) (eT eI))) a_made] = some (eB r) := fun r h =>
  fn_t (ss := [some (.val ((eT (eT eI)) a_table)), some (.val (eI a_n)), some (.val ((eL (eP2 (eT eI) (eT eI))) a_made)), none, none, none, none, none, none, none, none, none, none]) (e := eB) (b := b__law_space_right) h rfl (.s (.s (.s (.a (.a (.a (.a (.a (.a (.a (.a (.a (.a .n))))))))))))) (St.bind (Eo.lcm (ex := (eT eI)) (Eg.itT (Eg.var (i := 0) rfl)) (fun x1 => Tg.n) (fun x1 => (Eo.ret (e := eI) Eg.ci))) fun v2 hv2 =>
  (St.bind (Eo.call (T_parity_left _ _) (Eg.ac (Eg.var (i := 1) rfl) (Eg.ac (Eg.var (i := 0) rfl) Eg.a0))) fun v3 hv3 =>
  (St.par3 (es := fun z => .val ((eT eI) z)) (et := fun z => .val (eI z)) (eu := fun z => .val (eI z)) (Eg.xv (Eg.tupL hv2)) (Eg.xv hv3) (Eg.xv Eg.ci) fun nothing_4 free_5 size_6 =>
  (St.at [some (.val ((eT (eT eI)) a_table)), some (.val (eI a_n)), some (.val ((eL (eP2 (eT eI) (eT eI))) a_made)), some (.val ((eT eI) nothing_4)), some (.val (eI free_5)), some (.val (eI size_6)), none, none, none, none, none, none, none] (St.bind (Eo.call (T_coset_words _ _) (Eg.ac (Eg.var (i := 0) rfl) (Eg.ac (Eg.var (i := 3) rfl) Eg.a0))) fun v7 hv7 =>
  (St.set (es := fun z => .val ((eT (eT eI)) z)) (Eg.xv hv7) fun space_8 =>
  (St.at [some (.val ((eT (eT eI)) a_table)), some (.val (eI a_n)), some (.val ((eL (eP2 (eT eI) (eT eI))) a_made)), some (.val ((eT eI) nothing_4)), some (.val (eI free_5)), some (.val (eI size_6)), some (.val ((eT (eT eI)) space_8)), none, none, none, none, none, none] (St.bind (Eo.call (T__law_bits _) (Eg.ac (Eg.var (i := 1) rfl) Eg.a0)) fun v9 hv9 =>
  (St.bind (Eo.lcc (ex := (eT eI)) (Eg.itL hv9) (fun x10 => Tg.n) (fun x10 => (Eo.bind (Eo.lcm (ex := (eT eI)) (Eg.itT (Eg.var (i := 0) rfl)) (fun x11 => Tg.n) (fun x11 => (Eo.bind (Eo.call (T__law_even _ _) (Eg.ac (Eg.var (i := 10) rfl) (Eg.ac (Eg.var (i := 12) rfl) Eg.a0))) fun v12 hv12 => (Eo.ret (e := eB) (Eg.eqq eqI rfl hv12 Eg.ci))))) fun v13 hv13 => (Eo.ret (e := fun b : Bool => b) (Eg.tnot (Eg.tru (Eg.anyL hv13)))))) (fun x10 => (Eo.ret (e := (eT eI)) (Eg.var (i := 10) rfl)))) fun v14 hv14 =>
  (St.setF (es := (eL (eT eI))) hv14 fun own_15 =>
  (St.at [some (.val ((eT (eT eI)) a_table)), some (.val (eI a_n)), some (.val ((eL (eP2 (eT eI) (eT eI))) a_made)), some (.val ((eT eI) nothing_4)), some (.val (eI free_5)), some (.val (eI size_6)), some (.val ((eT (eT eI)) space_8)), some (.val ((eL (eT eI)) own_15)), none, none, none, none, none] (St.bind (Eo.like (lkT (lkT1 lkI)) (Eg.var (i := 6) rfl) (Eg.tupL (Eg.varB (i := 7) rfl))) fun v16 hv16 =>
  (St.ifd (Eg.tor (Eg.tnot (Eg.tru hv16)) (Eg.tor (Eg.tnot (Eg.tru (Eg.isIntI (Eg.var (i := 4) rfl)))) (Eg.tor (Eg.tb (Eg.lt (Eg.varB (i := 4) rfl) Eg.ci)) (Eg.tb (Eg.gt (Eg.varB (i := 4) rfl) (Eg.varB (i := 1) rfl))))))
  (St.cut (St.ret Eg.cb))
  (St.skip (St.bind (Eo.rng1 (Eg.varB (i := 4) rfl)) fun v17 hv17 =>
  (St.for (S := (fun s18 : Int => [some (.val ((eT (eT eI)) a_table)), some (.val (eI a_n)), some (.val ((eL (eP2 (eT eI) (eT eI))) a_made)), some (.val ((eT eI) nothing_4)), some (.val (eI free_5)), some (.val (eI s18)), some (.val ((eT (eT eI)) space_8)), some (.val ((eL (eT eI)) own_15)), none, none, none, none, none])) (ex := eI) hv17 (.s (.s (.s (.s (.s (.s (.s (.s (.a (.a (.a (.a (.a .n))))))))))))) (fun s18 x19 => Tg.n) (fun s18 x19 => (St.at [some (.val ((eT (eT eI)) a_table)), some (.val (eI a_n)), some (.val ((eL (eP2 (eT eI) (eT eI))) a_made)), some (.val ((eT eI) nothing_4)), some (.val (eI free_5)), some (.val (eI s18)), some (.val ((eT (eT eI)) space_8)), some (.val ((eL (eT eI)) own_15)), some (.val (eI x19)), none, none, none, none] (St.last (St.set (es := fun z => .val (eI z)) (Eg.xv (Eg.mulL rfl Eg.ci (Eg.varB (i := 5) rfl))) fun size_33 =>
  (St.at [some (.val ((eT (eT eI)) a_table)), some (.val (eI a_n)), some (.val ((eL (eP2 (eT eI) (eT eI))) a_made)), some (.val ((eT eI) nothing_4)), some (.val (eI free_5)), some (.val (eI size_33)), some (.val ((eT (eT eI)) space_8)), some (.val ((eL (eT eI)) own_15)), some (.val (eI x19)), none, none, none, none] (St.nx fun Γ m => m.sub (.s (.s (.s (.s (.s (.s (.s (.s (.a (.a (.a (.a (.a .n))))))))))))))))))) fun s18 =>
  (St.at [some (.val ((eT (eT eI)) a_table)), some (.val (eI a_n)), some (.val ((eL (eP2 (eT eI) (eT eI))) a_made)), some (.val ((eT eI) nothing_4)), some (.val (eI free_5)), some (.val (eI s18)), some (.val ((eT (eT eI)) space_8)), some (.val ((eL (eT eI)) own_15)), none, none, none, none, none] (St.ifd (Eg.tb (Eg.neq eqI rfl (Eg.varB (i := 5) rfl) (Eg.lenT (Eg.varB (i := 6) rfl))))
  (St.cut (St.ret Eg.cb))
  (St.skip (St.bind (Eo.lcm (ex := (eP2 (eT eI) (eT eI))) (Eg.itL (Eg.var (i := 2) rfl)) (fun x20 => (Tg.p2 Tg.n Tg.n)) (fun x20 => (Eo.ret (e := (eT eI)) (Eg.var (i := 10) rfl)))) fun v21 hv21 =>
  (St.bind (Eo.setT hv21) fun v22 hv22 =>
  (St.set (es := fun z => .val ((eL (eT eI)) z)) (Eg.xv hv22) fun sums_23 =>
  (St.at [some (.val ((eT (eT eI)) a_table)), some (.val (eI a_n)), some (.val ((eL (eP2 (eT eI) (eT eI))) a_made)), some (.val ((eT eI) nothing_4)), some (.val (eI free_5)), some (.val (eI s18)), some (.val ((eT (eT eI)) space_8)), some (.val ((eL (eT eI)) own_15)), none, some (.val ((eL (eT eI)) sums_23)), none, none, none] (St.bind (Eo.lcm (ex := (eT eI)) (Eg.itT (Eg.var (i := 6) rfl)) (fun x24 => Tg.n) (fun x24 => (Eo.ret (e := eI) Eg.ci))) fun v25 hv25 =>
  (St.bind (Eo.call (T_coset_words _ _) (Eg.ac (Eg.var (i := 6) rfl) (Eg.ac (Eg.tupL hv25) Eg.a0))) fun v26 hv26 =>
  (St.bind (Eo.like (lkT (lkT1 lkI)) hv26 (Eg.tupL (Eg.varB (i := 9) rfl))) fun v27 hv27 =>
  (St.ifd (Eg.tnot (Eg.tru hv27))
  (St.cut (St.ret Eg.cb))
  (St.skip (St.bind (Eo.mul (Eg.lenL (Eg.varB (i := 9) rfl)) (Eg.lenT (Eg.varB (i := 6) rfl))) fun v28 hv28 =>
  (St.bind (Eo.call (T__law_bits _) (Eg.ac (Eg.var (i := 1) rfl) Eg.a0)) fun v29 hv29 =>
  (St.bind (Eo.andE (Eg.eqq eqI rfl hv28 (Eg.lenL hv29)) (Eo.bind (Eo.call (T_parity_left _ _) (Eg.ac (Eg.var (i := 1) rfl) (Eg.ac (Eg.var (i := 6) rfl) Eg.a0))) fun v30 hv30 => (Eo.bind (Eo.like lkI hv30 (Eg.sub (Eg.varB (i := 1) rfl) (Eg.varB (i := 4) rfl))) fun v31 hv31 => (Eo.ret (e := eB) hv31)))) fun v32 hv32 =>
  (St.ret hv32))))))))))))))))))))))))))))))))
noncomputable def t__law_coset_right (a_table : (List (List Int))) (a_n : Int) (a_made : (List ((List Int) × (List Int)))) (a_message : (List Int)) (a_row : (Option (List Int))) : Option Bool := tRun
  (tBind (t_coset_words a_table a_message) fun v1 =>
  (tBind (tBind (tAllO (fun x2 => (some (Int.ofNat 0))) a_table) tLim) fun v3 =>
  (tBind (t_coset_words a_table v3) fun v4 =>
  (tLet v1 fun rows_5 => (tLet v4 fun space_6 => (bIf (oIsN a_row)
  (tBind (tLike (lEq (lEq iEq)) (okT okL1) rows_5 ([] : (List (List Int)))) fun v7 =>
  (tBind (bIf v7 (tBind (yRep [(Int.ofNat 0)] a_n) fun v8 => (tBind (t_changes_needed a_table v8 a_message) fun v9 => (some (oIsN v9)))) (some false)) fun v10 =>
  (some (.rt v10))))
  (tBind (tBind (tAllO (fun x11 => (tBind a_row fun v12 => (t__law_sum v12 x11))) space_6) tLim) fun v14 =>
  (tBind (tSortT2 v14) fun v15 =>
  (tBind (tLike (lEq (lEq iEq)) (okT okL1) rows_5 v15) fun v16 =>
  (bIf (bNot v16)
  (some (.rt false))
  (tBind (tBind (tAllO (fun x17 => (tBind (t_squeezed a_table x17) fun v18 => (tLike (lEq iEq) okL1 v18 a_message))) rows_5) tLim) fun v20 =>
  (bIf (bNot (tAllB v20))
  (some (.rt false))
  (tBind (tRng (Int.ofNat 0) (iAdd a_n (Int.ofNat 1))) fun v21 =>
  (tLp (yFor (fun (s22 : Unit) (x23 : Int) =>
  (tBind (tBind (tAllO (fun x35 => (t__law_weight x35 x23)) rows_5) tLim) fun v37 =>
  (tLet (tSum v37) fun whole_38 => (tLet (Int.ofNat 0) fun due_39 => (tBind (tBind (tFilO (fun x40 => (some (iEq (tSum x40.2) x23))) (fun x40 => (some x40.2)) a_made) tLim) fun v41 =>
  (tBind (tSetT v41) fun v42 =>
  (tLp (yFor (fun (s43 : Int) (x44 : (List Int)) =>
  (tBind a_row fun v46 =>
  (tBind (t__law_even x44 v46) fun v47 =>
  (tBind (tIx [(Int.ofNat 1), (iNeg (Int.ofNat 1))] v47) fun v48 =>
  (tLet (iAdd s43 v48) fun due_49 =>
  (some (.nx due_49))))))) v42 due_39) fun s43 =>
  (tBind (yMul s43 (iLen rows_5)) fun v45 =>
  (bIf (bNot (iEq whole_38 v45))
  (some (.rt false))
  (some (.nx ()))))))))))) v21 ()) fun s22 =>
  (tBind (tBind (tAllO (fun x24 => (tBind (tRng (Int.ofNat 0) a_n) fun v25 => (tBind (tBind (tFilO (fun x26 => (tBind (tIx x24 x26) fun v27 => (some (iEq v27 (Int.ofNat 1))))) (fun x26 => (some x26)) v25) tLim) fun v28 => (some ((tSum x24), v28))))) rows_5) tLim) fun v29 =>
  (tBind (tMinPT v29) fun v30 =>
  (tLet v30 fun least_31 =>
  (tBind (yRep [(Int.ofNat 0)] a_n) fun v32 =>
  (tBind (t_changes_needed a_table v32 a_message) fun v33 =>
  (tBind (tLike (oEq (pEq iEq (lEq iEq))) (okO (okP2 okY okL1)) v33 (some least_31)) fun v34 =>
  (some (.rt v34))))))))))))))))))))))
theorem T__law_coset_right (a_table : (List (List Int))) (a_n : Int) (a_made : (List ((List Int) × (List Int)))) (a_message : (List Int)) (a_row : (Option (List Int))) : ∀ r, t__law_coset_right a_table a_n a_made a_message a_row = some r → m__law_coset_right [(eT (eT eI)) a_table, eI a_n, (eL (eP2 (eT eI) (eT eI))) a_made, (eT eI) a_message, (eO (eT eI)) a_row] = some (eB r) := fun r h =>
  fn_t (ss := [some (.val ((eT (eT eI)) a_table)), some (.val (eI a_n)), some (.val ((eL (eP2 (eT eI) (eT eI))) a_made)), some (.val ((eT eI) a_message)), some (.val ((eO (eT eI)) a_row)), none, none, none, none, none, none, none, none, none, none]) (e := eB) (b := b__law_coset_right) h rfl (.s (.s (.s (.s (.s (.a (.a (.a (.a (.a (.a (.a (.a (.a (.a .n))))))))))))))) (St.bind (Eo.call (T_coset_words _ _) (Eg.ac (Eg.var (i := 0) rfl) (Eg.ac (Eg.var (i := 3) rfl) Eg.a0))) fun v1 hv1 =>
  (St.bind (Eo.lcm (ex := (eT eI)) (Eg.itT (Eg.var (i := 0) rfl)) (fun x2 => Tg.n) (fun x2 => (Eo.ret (e := eI) Eg.ci))) fun v3 hv3 =>
  (St.bind (Eo.call (T_coset_words _ _) (Eg.ac (Eg.var (i := 0) rfl) (Eg.ac (Eg.tupL hv3) Eg.a0))) fun v4 hv4 =>
  (St.par (es := fun z => .val ((eT (eT eI)) z)) (et := fun z => .val ((eT (eT eI)) z)) (Eg.xv hv1) (Eg.xv hv4) fun rows_5 space_6 =>
  (St.at [some (.val ((eT (eT eI)) a_table)), some (.val (eI a_n)), some (.val ((eL (eP2 (eT eI) (eT eI))) a_made)), some (.val ((eT eI) a_message)), some (.val ((eO (eT eI)) a_row)), none, some (.val ((eT (eT eI)) rows_5)), some (.val ((eT (eT eI)) space_6)), none, none, none, none, none, none, none] (St.ifd (Eg.tb (Eg.isN nnT (Eg.varB (i := 4) rfl)))
  (St.cut (St.bind (Eo.like (lkT (lkT1 lkI)) (Eg.var (i := 6) rfl) (Eg.tl (Eg.l0 (e := (eT eI))) rfl)) fun v7 hv7 =>
  (St.bind (Eo.andE hv7 (Eo.bind (Eo.repL (Eg.ll (Eg.lc Eg.ci (Eg.l0 (e := eI))) rfl) (Eg.varB (i := 1) rfl)) fun v8 hv8 => (Eo.bind (Eo.call (T_changes_needed _ _ _) (Eg.ac (Eg.var (i := 0) rfl) (Eg.ac (Eg.tupL hv8) (Eg.ac (Eg.var (i := 3) rfl) Eg.a0)))) fun v9 hv9 => (Eo.ret (e := eB) (Eg.isN nnP2 hv9))))) fun v10 hv10 =>
  (St.ret hv10))))
  (St.skip (St.bind (Eo.lcm (ex := (eT eI)) (Eg.itT (Eg.var (i := 7) rfl)) (fun x11 => Tg.n) (fun x11 => (Eo.bind (Eo.get (e := (eT eI)) (Eg.var (i := 4) rfl)) fun v12 hv12 => (Eo.call (T__law_sum _ _) (Eg.ac hv12 (Eg.ac (Eg.var (i := 12) rfl) Eg.a0)))))) fun v14 hv14 =>
  (St.bind (Eo.sortB (Eo.sortAT2 hv14)) fun v15 hv15 =>
  (St.bind (Eo.like (lkT (lkT1 lkI)) (Eg.var (i := 6) rfl) (Eg.tupL hv15)) fun v16 hv16 =>
  (St.ifd (Eg.tnot (Eg.tru hv16))
  (St.cut (St.ret Eg.cb))
  (St.skip (St.bind (Eo.lcm (ex := (eT eI)) (Eg.itT (Eg.var (i := 6) rfl)) (fun x17 => Tg.n) (fun x17 => (Eo.bind (Eo.call (T_squeezed _ _) (Eg.ac (Eg.var (i := 0) rfl) (Eg.ac (Eg.var (i := 12) rfl) Eg.a0))) fun v18 hv18 => (Eo.like (lkT1 lkI) hv18 (Eg.var (i := 3) rfl))))) fun v20 hv20 =>
  (St.ifd (Eg.tnot (Eg.tru (Eg.all hv20)))
  (St.cut (St.ret Eg.cb))
  (St.skip (St.bind (Eo.rng1 (Eg.add (Eg.varB (i := 1) rfl) Eg.ci)) fun v21 hv21 =>
  (St.for (S := (fun s22 : Unit => [some (.val ((eT (eT eI)) a_table)), some (.val (eI a_n)), some (.val ((eL (eP2 (eT eI) (eT eI))) a_made)), some (.val ((eT eI) a_message)), some (.val ((eO (eT eI)) a_row)), none, some (.val ((eT (eT eI)) rows_5)), some (.val ((eT (eT eI)) space_6)), none, none, none, none, none, none, none])) (ex := eI) hv21 (.s (.s (.s (.s (.s (.a (.s (.s (.a (.a (.a (.a (.a (.a (.a .n))))))))))))))) (fun s22 x23 => Tg.n) (fun s22 x23 => (St.at [some (.val ((eT (eT eI)) a_table)), some (.val (eI a_n)), some (.val ((eL (eP2 (eT eI) (eT eI))) a_made)), some (.val ((eT eI) a_message)), some (.val ((eO (eT eI)) a_row)), none, some (.val ((eT (eT eI)) rows_5)), some (.val ((eT (eT eI)) space_6)), some (.val (eI x23)), none, none, none, none, none, none] (St.bind (Eo.lcm (ex := (eT eI)) (Eg.itT (Eg.var (i := 6) rfl)) (fun x35 => Tg.n) (fun x35 => (Eo.call (T__law_weight _ _) (Eg.ac (Eg.var (i := 12) rfl) (Eg.ac (Eg.var (i := 8) rfl) Eg.a0))))) fun v37 hv37 =>
  (St.par (es := fun z => .val (eI z)) (et := fun z => .val (eI z)) (Eg.xv (Eg.sumL hv37)) (Eg.xv Eg.ci) fun whole_38 due_39 =>
  (St.at [some (.val ((eT (eT eI)) a_table)), some (.val (eI a_n)), some (.val ((eL (eP2 (eT eI) (eT eI))) a_made)), some (.val ((eT eI) a_message)), some (.val ((eO (eT eI)) a_row)), none, some (.val ((eT (eT eI)) rows_5)), some (.val ((eT (eT eI)) space_6)), some (.val (eI x23)), some (.val (eI whole_38)), some (.val (eI due_39)), none, none, none, none] (St.bind (Eo.lcc (ex := (eP2 (eT eI) (eT eI))) (Eg.itL (Eg.var (i := 2) rfl)) (fun x40 => (Tg.p2 Tg.n Tg.n)) (fun x40 => (Eo.ret (e := fun b : Bool => b) (Eg.tb (Eg.eqq eqI rfl (Eg.sumT (Eg.varB (i := 12) rfl)) (Eg.varB (i := 8) rfl))))) (fun x40 => (Eo.ret (e := (eT eI)) (Eg.var (i := 12) rfl)))) fun v41 hv41 =>
  (St.bind (Eo.setT hv41) fun v42 hv42 =>
  (St.for (S := (fun s43 : Int => [some (.val ((eT (eT eI)) a_table)), some (.val (eI a_n)), some (.val ((eL (eP2 (eT eI) (eT eI))) a_made)), some (.val ((eT eI) a_message)), some (.val ((eO (eT eI)) a_row)), none, some (.val ((eT (eT eI)) rows_5)), some (.val ((eT (eT eI)) space_6)), some (.val (eI x23)), some (.val (eI whole_38)), some (.val (eI s43)), none, none, none, none])) (ex := (eT eI)) (Eg.itL hv42) (.s (.s (.s (.s (.s (.a (.s (.s (.s (.s (.s (.a (.a (.a (.a .n))))))))))))))) (fun s43 x44 => Tg.n) (fun s43 x44 => (St.at [some (.val ((eT (eT eI)) a_table)), some (.val (eI a_n)), some (.val ((eL (eP2 (eT eI) (eT eI))) a_made)), some (.val ((eT eI) a_message)), some (.val ((eO (eT eI)) a_row)), some (.val ((eT eI) x44)), some (.val ((eT (eT eI)) rows_5)), some (.val ((eT (eT eI)) space_6)), some (.val (eI x23)), some (.val (eI whole_38)), some (.val (eI s43)), none, none, none, none] (St.last (St.bind (Eo.get (e := (eT eI)) (Eg.var (i := 4) rfl)) fun v46 hv46 =>
  (St.bind (Eo.call (T__law_even _ _) (Eg.ac (Eg.var (i := 5) rfl) (Eg.ac hv46 Eg.a0))) fun v47 hv47 =>
  (St.bind (Eo.ixT (Eg.tl (Eg.lc Eg.ci (Eg.lc (Eg.neg Eg.ci) (Eg.l0 (e := eI)))) rfl) hv47) fun v48 hv48 =>
  (St.set (es := fun z => .val (eI z)) (Eg.xv (Eg.add (Eg.varB (i := 10) rfl) hv48)) fun due_49 =>
  (St.at [some (.val ((eT (eT eI)) a_table)), some (.val (eI a_n)), some (.val ((eL (eP2 (eT eI) (eT eI))) a_made)), some (.val ((eT eI) a_message)), some (.val ((eO (eT eI)) a_row)), some (.val ((eT eI) x44)), some (.val ((eT (eT eI)) rows_5)), some (.val ((eT (eT eI)) space_6)), some (.val (eI x23)), some (.val (eI whole_38)), some (.val (eI due_49)), none, none, none, none] (St.nx fun Γ m => m.sub (.s (.s (.s (.s (.s (.a (.s (.s (.s (.s (.s (.a (.a (.a (.a .n)))))))))))))))))))))))) fun s43 =>
  (St.at [some (.val ((eT (eT eI)) a_table)), some (.val (eI a_n)), some (.val ((eL (eP2 (eT eI) (eT eI))) a_made)), some (.val ((eT eI) a_message)), some (.val ((eO (eT eI)) a_row)), none, some (.val ((eT (eT eI)) rows_5)), some (.val ((eT (eT eI)) space_6)), some (.val (eI x23)), some (.val (eI whole_38)), some (.val (eI s43)), none, none, none, none] (St.last (St.bind (Eo.mul (Eg.varB (i := 10) rfl) (Eg.lenT (Eg.varB (i := 6) rfl))) fun v45 hv45 =>
  (St.ifd (Eg.tb (Eg.neq eqI rfl (Eg.varB (i := 9) rfl) hv45))
  (St.cut (St.ret Eg.cb))
  (St.skip (St.nx fun Γ m => m.sub (.s (.s (.s (.s (.s (.a (.s (.s (.a (.a (.a (.a (.a (.a (.a .n))))))))))))))))))))))))))))) fun s22 =>
  (St.at [some (.val ((eT (eT eI)) a_table)), some (.val (eI a_n)), some (.val ((eL (eP2 (eT eI) (eT eI))) a_made)), some (.val ((eT eI) a_message)), some (.val ((eO (eT eI)) a_row)), none, some (.val ((eT (eT eI)) rows_5)), some (.val ((eT (eT eI)) space_6)), none, none, none, none, none, none, none] (St.bind (Eo.lcm (ex := (eT eI)) (Eg.itT (Eg.var (i := 6) rfl)) (fun x24 => Tg.n) (fun x24 => (Eo.bind (Eo.rng1 (Eg.varB (i := 1) rfl)) fun v25 hv25 => (Eo.bind (Eo.lcc (ex := eI) hv25 (fun x26 => Tg.n) (fun x26 => (Eo.bind (Eo.ixT (Eg.varB (i := 12) rfl) (Eg.varB (i := 14) rfl)) fun v27 hv27 => (Eo.ret (e := fun b : Bool => b) (Eg.tb (Eg.eqq eqI rfl hv27 Eg.ci))))) (fun x26 => (Eo.ret (e := eI) (Eg.var (i := 14) rfl)))) fun v28 hv28 => (Eo.ret (e := (eP2 eI (eT eI))) (Eg.p2 (e := eI) (f := (eT eI)) (Eg.sumT (Eg.varB (i := 12) rfl)) (Eg.tupL hv28))))))) fun v29 hv29 =>
  (St.bind (Eo.minPT hv29) fun v30 hv30 =>
  (St.set (es := fun z => .val ((eP2 eI (eT eI)) z)) (Eg.xv hv30) fun least_31 =>
  (St.at [some (.val ((eT (eT eI)) a_table)), some (.val (eI a_n)), some (.val ((eL (eP2 (eT eI) (eT eI))) a_made)), some (.val ((eT eI) a_message)), some (.val ((eO (eT eI)) a_row)), none, some (.val ((eT (eT eI)) rows_5)), some (.val ((eT (eT eI)) space_6)), none, none, none, some (.val ((eP2 eI (eT eI)) least_31)), none, none, none] (St.bind (Eo.repL (Eg.ll (Eg.lc Eg.ci (Eg.l0 (e := eI))) rfl) (Eg.varB (i := 1) rfl)) fun v32 hv32 =>
  (St.bind (Eo.call (T_changes_needed _ _ _) (Eg.ac (Eg.var (i := 0) rfl) (Eg.ac (Eg.tupL hv32) (Eg.ac (Eg.var (i := 3) rfl) Eg.a0)))) fun v33 hv33 =>
  (St.bind (Eo.like (lkO (lkP2 lkI (lkT1 lkI)) lnP2) hv33 (Eg.sm (e := (eP2 eI (eT eI))) (Eg.var (i := 11) rfl))) fun v34 hv34 =>
  (St.ret hv34))))))))))))))))))))))))))
noncomputable def t__law_changes_right (a_table : (List (List Int))) (a_n : Int) (a_first : (List Int)) (a_second : (List Int)) : Option Bool := tRun
  (tBind (tBind (tAllO (fun x1 => (t__law_even a_second x1)) a_table) tLim) fun v3 =>
  (tLet v3 fun message_4 =>
  (tBind (tBind (tAllO (fun x5 => (tBind (t__law_sum a_first a_second) fun v6 => (t__law_even v6 x5))) a_table) tLim) fun v8 =>
  (tLet v8 fun lacks_9 =>
  (tBind (t_squeezed a_table a_second) fun v10 =>
  (tBind (tLike (lEq iEq) okL1 v10 message_4) fun v11 =>
  (bIf (bNot v11)
  (some (.rt false))
  (tBind (t_changes_needed a_table a_first message_4) fun v12 =>
  (tLet v12 fun told_13 =>
  (tBind (bIf (bNot (oIsN told_13)) (tBind (yRep [(Int.ofNat 0)] a_n) fun v14 => (tBind (t_changes_needed a_table v14 lacks_9) fun v15 => (tBind (tLike (oEq (pEq iEq (lEq iEq))) (okO (okP2 okY okL1)) told_13 v15) fun v16 => (some v16)))) (some false)) fun v17 =>
  (some (.rt v17))))))))))))
theorem T__law_changes_right (a_table : (List (List Int))) (a_n : Int) (a_first : (List Int)) (a_second : (List Int)) : ∀ r, t__law_changes_right a_table a_n a_first a_second = some r → m__law_changes_right [(eT (eT eI)) a_table, eI a_n, (eT eI) a_first, (eT eI) a_second] = some (eB r) := fun r h =>
  fn_t (ss := [some (.val ((eT (eT eI)) a_table)), some (.val (eI a_n)), some (.val ((eT eI) a_first)), some (.val ((eT eI) a_second)), none, none, none, none]) (e := eB) (b := b__law_changes_right) h rfl (.s (.s (.s (.s (.a (.a (.a (.a .n)))))))) (St.bind (Eo.lcm (ex := (eT eI)) (Eg.itT (Eg.var (i := 0) rfl)) (fun x1 => Tg.n) (fun x1 => (Eo.call (T__law_even _ _) (Eg.ac (Eg.var (i := 3) rfl) (Eg.ac (Eg.var (i := 7) rfl) Eg.a0))))) fun v3 hv3 =>
  (St.set (es := fun z => .val ((eT eI) z)) (Eg.xv (Eg.tupL hv3)) fun message_4 =>
  (St.at [some (.val ((eT (eT eI)) a_table)), some (.val (eI a_n)), some (.val ((eT eI) a_first)), some (.val ((eT eI) a_second)), some (.val ((eT eI) message_4)), none, none, none] (St.bind (Eo.lcm (ex := (eT eI)) (Eg.itT (Eg.var (i := 0) rfl)) (fun x5 => Tg.n) (fun x5 => (Eo.bind (Eo.call (T__law_sum _ _) (Eg.ac (Eg.var (i := 2) rfl) (Eg.ac (Eg.var (i := 3) rfl) Eg.a0))) fun v6 hv6 => (Eo.call (T__law_even _ _) (Eg.ac hv6 (Eg.ac (Eg.var (i := 7) rfl) Eg.a0)))))) fun v8 hv8 =>
  (St.set (es := fun z => .val ((eT eI) z)) (Eg.xv (Eg.tupL hv8)) fun lacks_9 =>
  (St.at [some (.val ((eT (eT eI)) a_table)), some (.val (eI a_n)), some (.val ((eT eI) a_first)), some (.val ((eT eI) a_second)), some (.val ((eT eI) message_4)), some (.val ((eT eI) lacks_9)), none, none] (St.bind (Eo.call (T_squeezed _ _) (Eg.ac (Eg.var (i := 0) rfl) (Eg.ac (Eg.var (i := 3) rfl) Eg.a0))) fun v10 hv10 =>
  (St.bind (Eo.like (lkT1 lkI) hv10 (Eg.var (i := 4) rfl)) fun v11 hv11 =>
  (St.ifd (Eg.tnot (Eg.tru hv11))
  (St.cut (St.ret Eg.cb))
  (St.skip (St.bind (Eo.call (T_changes_needed _ _ _) (Eg.ac (Eg.var (i := 0) rfl) (Eg.ac (Eg.var (i := 2) rfl) (Eg.ac (Eg.var (i := 4) rfl) Eg.a0)))) fun v12 hv12 =>
  (St.set (es := fun z => .val ((eO (eP2 eI (eT eI))) z)) (Eg.xv hv12) fun told_13 =>
  (St.at [some (.val ((eT (eT eI)) a_table)), some (.val (eI a_n)), some (.val ((eT eI) a_first)), some (.val ((eT eI) a_second)), some (.val ((eT eI) message_4)), some (.val ((eT eI) lacks_9)), some (.val ((eO (eP2 eI (eT eI))) told_13)), none] (St.bind (Eo.andE (Eg.isiO (fun _ => rfl) rfl (Eg.varB (i := 6) rfl)) (Eo.bind (Eo.repL (Eg.ll (Eg.lc Eg.ci (Eg.l0 (e := eI))) rfl) (Eg.varB (i := 1) rfl)) fun v14 hv14 => (Eo.bind (Eo.call (T_changes_needed _ _ _) (Eg.ac (Eg.var (i := 0) rfl) (Eg.ac (Eg.tupL hv14) (Eg.ac (Eg.var (i := 5) rfl) Eg.a0)))) fun v15 hv15 => (Eo.bind (Eo.like (lkO (lkP2 lkI (lkT1 lkI)) lnP2) (Eg.var (i := 6) rfl) hv15) fun v16 hv16 => (Eo.ret (e := eB) hv16))))) fun v17 hv17 =>
  (St.ret hv17)))))))))))))))
noncomputable def t_law (row : List Int) : Option (Res Unit Unit Bool) :=
  (tBind (t__law_table row) fun v1 =>
  (tLet v1 fun table_2 =>
  (tBind (tIx table_2 (Int.ofNat 0)) fun v3 =>
  (tLet (iLen v3) fun n_4 =>
  (tBind (t__law_made table_2 n_4) fun v5 =>
  (tLet v5 fun made_6 =>
  (tBind (tRng (Int.ofNat 0) n_4) fun v7 =>
  (tBind (tBind (tAllO (fun x8 => (tBind (tIx row (iAdd (Int.ofNat 18) x8)) fun v9 => (some (iMod v9 (Int.ofNat 2))))) v7) tLim) fun v10 =>
  (tLet v10 fun first_11 =>
  (tBind (tRng (Int.ofNat 0) n_4) fun v12 =>
  (tBind (tBind (tAllO (fun x13 => (tBind (tIx row (iAdd (Int.ofNat 23) x13)) fun v14 => (some (iMod v14 (Int.ofNat 2))))) v12) tLim) fun v15 =>
  (tLet v15 fun second_16 =>
  (tBind (t__law_space_right table_2 n_4 made_6) fun v17 =>
  (bIf (bNot v17)
  (some (.rt false))
  (tBind (tBind (tAllO (fun x18 => (t__law_even first_11 x18)) table_2) tLim) fun v20 =>
  (tLet v20 fun message_21 =>
  (tBind (tRng (Int.ofNat 0) (iLen table_2)) fun v22 =>
  (tBind (tBind (tAllO (fun x23 => (tBind (tIx row (iAdd (Int.ofNat 28) x23)) fun v24 => (some (iMod v24 (Int.ofNat 2))))) v22) tLim) fun v25 =>
  (tLet v25 fun other_26 =>
  (tBind (t__law_coset_right table_2 n_4 made_6 message_21 (some first_11)) fun v27 =>
  (bIf (bNot v27)
  (some (.rt false))
  (tBind (t__law_bits n_4) fun v28 =>
  (tBind (tBind (tFilO (fun x29 => (tBind (tBind (tAllO (fun x30 => (t__law_even x29 x30)) table_2) tLim) fun v32 => (some ((lEq iEq) v32 other_26)))) (fun x29 => (some x29)) v28) tLim) fun v33 =>
  (tLet v33 fun reached_34 =>
  (tLet none fun likely_35 =>
  (tSq (bIf (iLt (Int.ofNat 0) (iLen reached_34))
  (tBind (tIx reached_34 (iNeg (Int.ofNat 1))) fun v37 =>
  (tLet (some v37) fun likely_38 =>
  (some (.nx likely_38))))
  (some (.nx likely_35))) fun j36 =>
  (tBind (t__law_coset_right table_2 n_4 made_6 other_26 j36) fun v39 =>
  (bIf (bNot v39)
  (some (.rt false))
  (tBind (t__law_changes_right table_2 n_4 first_11 second_16) fun v40 =>
  (some (.rt v40)))))))))))))))))))))))))))))))
theorem law_typed (ht : ∀ row : List Int, row.length = 40 → (∀ x ∈ row, 0 ≤ x ∧ x < 1000003) → tRun (t_law row) = some true) : ∀ ns : List Int, ns.length ≤ 63 → m_law [.scr ns] = some (.bl true) := fun ns _ =>
  row_t (many := 40) (nn := 12) (t := t_law) (by decide) (fun row => St.at [none, some (.val ((eL eI) row)), none, none, none, none, none, none, none, none, none, none, none, none] (St.bind (Eo.call (T__law_table _) (Eg.ac (Eg.var (i := 1) rfl) Eg.a0)) fun v1 hv1 =>
  (St.set (es := fun z => .val ((eT (eT eI)) z)) (Eg.xv hv1) fun table_2 =>
  (St.at [none, some (.val ((eL eI) row)), some (.val ((eT (eT eI)) table_2)), none, none, none, none, none, none, none, none, none, none, none] (St.bind (Eo.ixT (Eg.varB (i := 2) rfl) Eg.ci) fun v3 hv3 =>
  (St.set (es := fun z => .val (eI z)) (Eg.xv (Eg.lenT hv3)) fun n_4 =>
  (St.at [none, some (.val ((eL eI) row)), some (.val ((eT (eT eI)) table_2)), some (.val (eI n_4)), none, none, none, none, none, none, none, none, none, none] (St.bind (Eo.call (T__law_made _ _) (Eg.ac (Eg.var (i := 2) rfl) (Eg.ac (Eg.var (i := 3) rfl) Eg.a0))) fun v5 hv5 =>
  (St.set (es := fun z => .val ((eL (eP2 (eT eI) (eT eI))) z)) (Eg.xv hv5) fun made_6 =>
  (St.at [none, some (.val ((eL eI) row)), some (.val ((eT (eT eI)) table_2)), some (.val (eI n_4)), some (.val ((eL (eP2 (eT eI) (eT eI))) made_6)), none, none, none, none, none, none, none, none, none] (St.bind (Eo.rng1 (Eg.varB (i := 3) rfl)) fun v7 hv7 =>
  (St.bind (Eo.lcm (ex := eI) hv7 (fun x8 => Tg.n) (fun x8 => (Eo.bind (Eo.ixL (Eg.varB (i := 1) rfl) (Eg.add Eg.ci (Eg.varB (i := 12) rfl))) fun v9 hv9 => (Eo.ret (e := eI) (Eg.mod rfl (Eg.int1 hv9) Eg.ci))))) fun v10 hv10 =>
  (St.set (es := fun z => .val ((eT eI) z)) (Eg.xv (Eg.tupL hv10)) fun first_11 =>
  (St.at [none, some (.val ((eL eI) row)), some (.val ((eT (eT eI)) table_2)), some (.val (eI n_4)), some (.val ((eL (eP2 (eT eI) (eT eI))) made_6)), some (.val ((eT eI) first_11)), none, none, none, none, none, none, none, none] (St.bind (Eo.rng1 (Eg.varB (i := 3) rfl)) fun v12 hv12 =>
  (St.bind (Eo.lcm (ex := eI) hv12 (fun x13 => Tg.n) (fun x13 => (Eo.bind (Eo.ixL (Eg.varB (i := 1) rfl) (Eg.add Eg.ci (Eg.varB (i := 12) rfl))) fun v14 hv14 => (Eo.ret (e := eI) (Eg.mod rfl (Eg.int1 hv14) Eg.ci))))) fun v15 hv15 =>
  (St.set (es := fun z => .val ((eT eI) z)) (Eg.xv (Eg.tupL hv15)) fun second_16 =>
  (St.at [none, some (.val ((eL eI) row)), some (.val ((eT (eT eI)) table_2)), some (.val (eI n_4)), some (.val ((eL (eP2 (eT eI) (eT eI))) made_6)), some (.val ((eT eI) first_11)), some (.val ((eT eI) second_16)), none, none, none, none, none, none, none] (St.bind (Eo.call (T__law_space_right _ _ _) (Eg.ac (Eg.var (i := 2) rfl) (Eg.ac (Eg.var (i := 3) rfl) (Eg.ac (Eg.var (i := 4) rfl) Eg.a0)))) fun v17 hv17 =>
  (St.ifd (Eg.tnot (Eg.tru hv17))
  (St.cut (St.ret Eg.cb))
  (St.skip (St.bind (Eo.lcm (ex := (eT eI)) (Eg.itT (Eg.var (i := 2) rfl)) (fun x18 => Tg.n) (fun x18 => (Eo.call (T__law_even _ _) (Eg.ac (Eg.var (i := 5) rfl) (Eg.ac (Eg.var (i := 13) rfl) Eg.a0))))) fun v20 hv20 =>
  (St.set (es := fun z => .val ((eT eI) z)) (Eg.xv (Eg.tupL hv20)) fun message_21 =>
  (St.at [none, some (.val ((eL eI) row)), some (.val ((eT (eT eI)) table_2)), some (.val (eI n_4)), some (.val ((eL (eP2 (eT eI) (eT eI))) made_6)), some (.val ((eT eI) first_11)), some (.val ((eT eI) second_16)), some (.val ((eT eI) message_21)), none, none, none, none, none, none] (St.bind (Eo.rng1 (Eg.lenT (Eg.varB (i := 2) rfl))) fun v22 hv22 =>
  (St.bind (Eo.lcm (ex := eI) hv22 (fun x23 => Tg.n) (fun x23 => (Eo.bind (Eo.ixL (Eg.varB (i := 1) rfl) (Eg.add Eg.ci (Eg.varB (i := 12) rfl))) fun v24 hv24 => (Eo.ret (e := eI) (Eg.mod rfl (Eg.int1 hv24) Eg.ci))))) fun v25 hv25 =>
  (St.set (es := fun z => .val ((eT eI) z)) (Eg.xv (Eg.tupL hv25)) fun other_26 =>
  (St.at [none, some (.val ((eL eI) row)), some (.val ((eT (eT eI)) table_2)), some (.val (eI n_4)), some (.val ((eL (eP2 (eT eI) (eT eI))) made_6)), some (.val ((eT eI) first_11)), some (.val ((eT eI) second_16)), some (.val ((eT eI) message_21)), some (.val ((eT eI) other_26)), none, none, none, none, none] (St.bind (Eo.call (T__law_coset_right _ _ _ _ _) (Eg.ac (Eg.var (i := 2) rfl) (Eg.ac (Eg.var (i := 3) rfl) (Eg.ac (Eg.var (i := 4) rfl) (Eg.ac (Eg.var (i := 7) rfl) (Eg.ac (Eg.sm (e := (eT eI)) (Eg.var (i := 5) rfl)) Eg.a0)))))) fun v27 hv27 =>
  (St.ifd (Eg.tnot (Eg.tru hv27))
  (St.cut (St.ret Eg.cb))
  (St.skip (St.bind (Eo.call (T__law_bits _) (Eg.ac (Eg.var (i := 3) rfl) Eg.a0)) fun v28 hv28 =>
  (St.bind (Eo.lcc (ex := (eT eI)) (Eg.itL hv28) (fun x29 => Tg.n) (fun x29 => (Eo.bind (Eo.lcm (ex := (eT eI)) (Eg.itT (Eg.var (i := 2) rfl)) (fun x30 => Tg.n) (fun x30 => (Eo.call (T__law_even _ _) (Eg.ac (Eg.var (i := 11) rfl) (Eg.ac (Eg.var (i := 13) rfl) Eg.a0))))) fun v32 hv32 => (Eo.ret (e := fun b : Bool => b) (Eg.tb (Eg.eqq (eqT eqI) rfl (Eg.tupL hv32) (Eg.varB (i := 8) rfl)))))) (fun x29 => (Eo.ret (e := (eT eI)) (Eg.var (i := 11) rfl)))) fun v33 hv33 =>
  (St.setF (es := (eL (eT eI))) hv33 fun reached_34 =>
  (St.at [none, some (.val ((eL eI) row)), some (.val ((eT (eT eI)) table_2)), some (.val (eI n_4)), some (.val ((eL (eP2 (eT eI) (eT eI))) made_6)), some (.val ((eT eI) first_11)), some (.val ((eT eI) second_16)), some (.val ((eT eI) message_21)), some (.val ((eT eI) other_26)), some (.val ((eL (eT eI)) reached_34)), none, none, none, none] (St.set (es := fun z => .val ((eO (eT eI)) z)) (Eg.xv (Eg.cn (e := (eT eI)))) fun likely_35 =>
  (St.at [none, some (.val ((eL eI) row)), some (.val ((eT (eT eI)) table_2)), some (.val (eI n_4)), some (.val ((eL (eP2 (eT eI) (eT eI))) made_6)), some (.val ((eT eI) first_11)), some (.val ((eT eI) second_16)), some (.val ((eT eI) message_21)), some (.val ((eT eI) other_26)), some (.val ((eL (eT eI)) reached_34)), some (.val ((eO (eT eI)) likely_35)), none, none, none] (St.iff (S := (fun j36 : (Option (List Int)) => [none, some (.val ((eL eI) row)), some (.val ((eT (eT eI)) table_2)), some (.val (eI n_4)), some (.val ((eL (eP2 (eT eI) (eT eI))) made_6)), some (.val ((eT eI) first_11)), some (.val ((eT eI) second_16)), some (.val ((eT eI) message_21)), some (.val ((eT eI) other_26)), some (.val ((eL (eT eI)) reached_34)), some (.val ((eO (eT eI)) j36)), none, none, none])) (Eg.tb (Eg.gt (Eg.lenL (Eg.varB (i := 9) rfl)) Eg.ci))
  (St.last (St.bind (Eo.ixL (Eg.varB (i := 9) rfl) (Eg.neg Eg.ci)) fun v37 hv37 =>
  (St.set (es := fun z => .val ((eO (eT eI)) z)) (Eg.xv (Eg.sm (e := (eT eI)) hv37)) fun likely_38 =>
  (St.at [none, some (.val ((eL eI) row)), some (.val ((eT (eT eI)) table_2)), some (.val (eI n_4)), some (.val ((eL (eP2 (eT eI) (eT eI))) made_6)), some (.val ((eT eI) first_11)), some (.val ((eT eI) second_16)), some (.val ((eT eI) message_21)), some (.val ((eT eI) other_26)), some (.val ((eL (eT eI)) reached_34)), some (.val ((eO (eT eI)) likely_38)), none, none, none] (St.nx fun Γ m => m.sub (.a (.s (.s (.s (.s (.s (.s (.s (.s (.s (.s (.a (.a (.a .n)))))))))))))))))))
  (St.nx fun Γ m => m.sub (.a (.s (.s (.s (.s (.s (.s (.s (.s (.s (.s (.a (.a (.a .n))))))))))))))) fun j36 =>
  (St.at [none, some (.val ((eL eI) row)), some (.val ((eT (eT eI)) table_2)), some (.val (eI n_4)), some (.val ((eL (eP2 (eT eI) (eT eI))) made_6)), some (.val ((eT eI) first_11)), some (.val ((eT eI) second_16)), some (.val ((eT eI) message_21)), some (.val ((eT eI) other_26)), some (.val ((eL (eT eI)) reached_34)), some (.val ((eO (eT eI)) j36)), none, none, none] (St.bind (Eo.call (T__law_coset_right _ _ _ _ _) (Eg.ac (Eg.var (i := 2) rfl) (Eg.ac (Eg.var (i := 3) rfl) (Eg.ac (Eg.var (i := 4) rfl) (Eg.ac (Eg.var (i := 8) rfl) (Eg.ac (Eg.var (i := 10) rfl) Eg.a0)))))) fun v39 hv39 =>
  (St.ifd (Eg.tnot (Eg.tru hv39))
  (St.cut (St.ret Eg.cb))
  (St.skip (St.bind (Eo.call (T__law_changes_right _ _ _ _) (Eg.ac (Eg.var (i := 2) rfl) (Eg.ac (Eg.var (i := 3) rfl) (Eg.ac (Eg.var (i := 5) rfl) (Eg.ac (Eg.var (i := 6) rfl) Eg.a0))))) fun v40 hv40 =>
  (St.ret hv40)))))))))))))))))))))))))))))))))))))))))))) ht
end K74

set_option Elab.async false
set_option linter.all false
set_option maxRecDepth 100000
set_option maxHeartbeats 4000000
set_option autoImplicit false
namespace K74
open PySem PySem.Spec PyProof.Rows L2 SK
/-! ### rows of bits, in plain Lean -/
abbrev Bs := List Bool
def allr : Nat → List Bs
  | 0 => [[]]
  | n + 1 => (allr n).map (false :: ·) ++ (allr n).map (true :: ·)
def dot : Bs → Bs → Bool
  | a :: as, b :: bs => (a && b) ^^ dot as bs
  | _, _ => false
def xr : Bs → Bs → Bs
  | a :: as, b :: bs => (a ^^ b) :: xr as bs
  | _, _ => []
def zr (n : Nat) : Bs := List.replicate n false
def sg (b : Bool) : Int := if b then -1 else 1
theorem sg_xor (a b : Bool) : sg (a ^^ b) = sg a * sg b := by cases a <;> cases b <;> rfl
theorem mem_allr : ∀ {n : Nat} {x : Bs}, x ∈ allr n ↔ x.length = n
  | 0, x => by
    unfold allr
    rw [List.mem_singleton, List.length_eq_zero_iff]
  | n + 1, x => by
    unfold allr
    rw [List.mem_append, List.mem_map, List.mem_map]
    constructor
    · rintro (⟨y, h, rfl⟩ | ⟨y, h, rfl⟩) <;> rw [List.length_cons, mem_allr.mp h]
    · intro h
      cases x with
      | nil => cases h
      | cons b x =>
        have hh : x.length = n := Nat.succ.inj h
        cases b
        · exact .inl ⟨x, mem_allr.mpr hh, rfl⟩
        · exact .inr ⟨x, mem_allr.mpr hh, rfl⟩
theorem dot_comm : ∀ a b : Bs, dot a b = dot b a
  | [], [] => rfl
  | [], _ :: _ => rfl
  | _ :: _, [] => rfl
  | a :: as, b :: bs => by unfold dot; rw [dot_comm as bs, Bool.and_comm]
theorem dot_xr : ∀ {n : Nat} {x y z : Bs}, x.length = n → y.length = n → dot (xr x y) z = (dot x z ^^ dot y z)
  | 0, [], [], z, _, _ => by cases z <;> rfl
  | n + 1, a :: as, b :: bs, [], _, _ => rfl
  | n + 1, a :: as, b :: bs, c :: cs, h, h2 => by
    show ((a ^^ b) && c ^^ dot (xr as bs) cs) = ((a && c ^^ dot as cs) ^^ (b && c ^^ dot bs cs))
    rw [dot_xr (Nat.succ.inj h) (Nat.succ.inj h2)]
    cases a <;> cases b <;> cases c <;> cases dot as cs <;> cases dot bs cs <;> rfl
theorem xr_len : ∀ {n : Nat} {x y : Bs}, x.length = n → y.length = n → (xr x y).length = n
  | 0, [], [], _, _ => rfl
  | n + 1, a :: as, b :: bs, h, h2 => congrArg Nat.succ (xr_len (Nat.succ.inj h) (Nat.succ.inj h2))
theorem xr_xr : ∀ {n : Nat} {x y : Bs}, x.length = n → y.length = n → xr (xr x y) y = x
  | 0, [], [], _, _ => rfl
  | n + 1, a :: as, b :: bs, h, h2 => by
    show ((a ^^ b) ^^ b) :: xr (xr as bs) bs = _
    rw [xr_xr (Nat.succ.inj h) (Nat.succ.inj h2)]; cases a <;> cases b <;> rfl
theorem xr_comm : ∀ (x y : Bs), xr x y = xr y x
  | [], [] => rfl
  | [], _ :: _ => rfl
  | _ :: _, [] => rfl
  | a :: as, b :: bs => by
    show (a ^^ b) :: xr as bs = (b ^^ a) :: xr bs as
    rw [xr_comm as bs, Bool.xor_comm]
theorem xr_zr : ∀ {n : Nat} {x y : Bs}, x.length = n → y.length = n → xr x y = zr n → x = y
  | 0, [], [], _, _, _ => rfl
  | n + 1, a :: as, b :: bs, h, h2, e => by
    have e : (a ^^ b) :: xr as bs = false :: zr n := e
    obtain ⟨e1, e2⟩ := List.cons.inj e
    rw [xr_zr (Nat.succ.inj h) (Nat.succ.inj h2) e2]
    cases a <;> cases b <;> first | rfl | cases e1
theorem xr_self : ∀ {n : Nat} {x : Bs}, x.length = n → xr x x = zr n
  | 0, [], _ => rfl
  | n + 1, a :: as, h => by
    show (a ^^ a) :: xr as as = false :: zr n
    rw [xr_self (Nat.succ.inj h), Bool.xor_self]
theorem zr_len (n : Nat) : (zr n).length = n := List.length_replicate
theorem dot_zr : ∀ (n : Nat) (x : Bs), dot (zr n) x = false
  | 0, x => by cases x <;> rfl
  | n + 1, [] => rfl
  | n + 1, b :: x => by
    show (false && b ^^ dot (zr n) x) = false
    rw [dot_zr n x]; rfl
/-! ### sums over all rows -/
def Sm : Nat → (Bs → Int) → Int
  | 0, f => f []
  | n + 1, f => Sm n (fun x => f (false :: x)) + Sm n (fun x => f (true :: x))
theorem Sm_congr : ∀ {n : Nat} {f g : Bs → Int}, (∀ x, x.length = n → f x = g x) → Sm n f = Sm n g
  | 0, f, g, h => h [] rfl
  | n + 1, f, g, h => by
    unfold Sm
    rw [Sm_congr fun x hx => h (false :: x) (congrArg Nat.succ hx), Sm_congr fun x hx => h (true :: x) (congrArg Nat.succ hx)]
theorem Sm_add : ∀ (n : Nat) (f g : Bs → Int), Sm n (fun x => f x + g x) = Sm n f + Sm n g
  | 0, f, g => rfl
  | n + 1, f, g => by
    unfold Sm
    rw [Sm_add n (fun x => f (false :: x)), Sm_add n (fun x => f (true :: x))]; omega
theorem Sm_mul : ∀ (n : Nat) (c : Int) (f : Bs → Int), Sm n (fun x => c * f x) = c * Sm n f
  | 0, c, f => rfl
  | n + 1, c, f => by
    unfold Sm
    rw [Sm_mul n c (fun x => f (false :: x)), Sm_mul n c (fun x => f (true :: x)), Int.mul_add]
theorem Sm_const : ∀ (n : Nat) (c : Int), Sm n (fun _ => c) = 2 ^ n * c
  | 0, c => by show c = 1 * c; omega
  | n + 1, c => by
    show Sm n (fun _ => c) + Sm n (fun _ => c) = _
    rw [Sm_const n c, Int.pow_succ]; grind
theorem Sm_swap : ∀ (n m : Nat) (f : Bs → Bs → Int), Sm n (fun x => Sm m (fun y => f x y)) = Sm m (fun y => Sm n (fun x => f x y))
  | 0, m, f => rfl
  | n + 1, m, f => by
    show Sm n (fun x => Sm m (fun y => f (false :: x) y)) + Sm n (fun x => Sm m (fun y => f (true :: x) y)) = Sm m (fun y => Sm n (fun x => f (false :: x) y) + Sm n (fun x => f (true :: x) y))
    rw [Sm_swap n m (fun x y => f (false :: x) y), Sm_swap n m (fun x y => f (true :: x) y), Sm_add]
theorem Sm_shift : ∀ {n : Nat} {a : Bs} (f : Bs → Int), a.length = n → Sm n (fun x => f (xr x a)) = Sm n f
  | 0, [], f, _ => rfl
  | n + 1, b :: a, f, h => by
    have hh := Nat.succ.inj h
    cases b
    · show Sm n (fun x => f (false :: xr x a)) + Sm n (fun x => f (true :: xr x a)) = Sm n (fun x => f (false :: x)) + Sm n (fun x => f (true :: x))
      rw [Sm_shift (fun x => f (false :: x)) hh, Sm_shift (fun x => f (true :: x)) hh]
    · show Sm n (fun x => f (true :: xr x a)) + Sm n (fun x => f (false :: xr x a)) = Sm n (fun x => f (false :: x)) + Sm n (fun x => f (true :: x))
      rw [Sm_shift (fun x => f (false :: x)) hh, Sm_shift (fun x => f (true :: x)) hh, Int.add_comm]
theorem Sm_char : ∀ {n : Nat} {y : Bs}, y.length = n → Sm n (fun x => sg (dot x y)) = if y = zr n then 2 ^ n else 0
  | 0, [], _ => rfl
  | n + 1, b :: y, h => by
    have hh := Nat.succ.inj h
    have ih := Sm_char hh
    cases b
    · show Sm n (fun x => sg (false ^^ dot x y)) + Sm n (fun x => sg (false ^^ dot x y)) = _
      have e : (fun x => sg (false ^^ dot x y)) = fun x => sg (dot x y) := funext fun x => by rw [Bool.false_xor]
      have z : zr (n + 1) = false :: zr n := rfl
      rw [e, ih, z]
      by_cases c : y = zr n
      · rw [if_pos c, if_pos (by rw [c]), Int.pow_succ]; omega
      · rw [if_neg c, if_neg fun q => c (List.cons.inj q).2]; rfl
    · show Sm n (fun x => sg (false ^^ dot x y)) + Sm n (fun x => sg (true ^^ dot x y)) = _
      have e : (fun x => sg (true ^^ dot x y)) = fun x => -1 * sg (dot x y) := funext fun x => by rw [sg_xor]; rfl
      have e2 : (fun x => sg (false ^^ dot x y)) = fun x => sg (dot x y) := funext fun x => by rw [Bool.false_xor]
      have nz : ¬ (true :: y = zr (n + 1)) := fun q => Bool.noConfusion (List.cons.inj (show true :: y = false :: zr n from q)).1
      rw [e, e2, Sm_mul, if_neg nz]; omega
theorem Sm_one : ∀ {n : Nat} {c : Bs}, c.length = n → Sm n (fun y => if y = c then 1 else 0) = 1
  | 0, [], _ => rfl
  | n + 1, b :: c, h => by
    have hh := Nat.succ.inj h
    have ih := Sm_one hh
    have Z : ∀ d e : Bool, d ≠ e → Sm n (fun y => if d :: y = e :: c then (1 : Int) else 0) = 0 := fun d e q => by
      rw [Sm_congr (g := fun _ => 0) fun y _ => if_neg fun w => q (List.cons.inj w).1, Sm_const]; omega
    have Y : ∀ d : Bool, Sm n (fun y => if d :: y = d :: c then (1 : Int) else 0) = 1 := fun d => by
      exact (Sm_congr fun y _ => by
        by_cases w : y = c
        · rw [if_pos w, if_pos (by rw [w])]
        · rw [if_neg w, if_neg fun q => w (List.cons.inj q).2]).trans ih
    cases b
    · show Sm n (fun y => if false :: y = false :: c then (1 : Int) else 0) + Sm n (fun y => if true :: y = false :: c then (1 : Int) else 0) = 1
      rw [Y, Z true false (by decide)]; rfl
    · show Sm n (fun y => if false :: y = true :: c then (1 : Int) else 0) + Sm n (fun y => if true :: y = true :: c then (1 : Int) else 0) = 1
      rw [Y, Z false true (by decide)]; rfl
theorem Sm_pos : ∀ {n : Nat} {f : Bs → Int}, (∀ x, 0 ≤ f x) → 0 ≤ Sm n f
  | 0, f, h => h []
  | n + 1, f, h => Int.add_nonneg (Sm_pos fun x => h _) (Sm_pos fun x => h _)
theorem Sm_ge : ∀ {n : Nat} {f : Bs → Int}, (∀ x, 0 ≤ f x) → ∀ {x : Bs}, x.length = n → f x ≤ Sm n f
  | 0, f, h, [], _ => Int.le_refl _
  | n + 1, f, h, b :: x, hx => by
    have hh := Nat.succ.inj hx
    have p0 : 0 ≤ Sm n (fun x => f (false :: x)) := Sm_pos fun x => h _
    have p1 : 0 ≤ Sm n (fun x => f (true :: x)) := Sm_pos fun x => h _
    unfold Sm
    cases b
    · have := Sm_ge (f := fun x => f (false :: x)) (fun x => h _) hh; have : f (false :: x) ≤ Sm n (fun x => f (false :: x)) := this; omega
    · have := Sm_ge (f := fun x => f (true :: x)) (fun x => h _) hh; have : f (true :: x) ≤ Sm n (fun x => f (true :: x)) := this; omega
/-- sums as the lists have them -/
def sumL (xs : List Int) : Int := xs.foldr (· + ·) 0
theorem sumL_app : ∀ xs ys : List Int, sumL (xs ++ ys) = sumL xs + sumL ys
  | [], ys => (Int.zero_add _).symm
  | x :: xs, ys => by
    show x + sumL (xs ++ ys) = x + sumL xs + sumL ys
    rw [sumL_app xs ys, Int.add_assoc]
theorem Sm_list : ∀ (n : Nat) (p : Bs → Bool) (f : Bs → Int), sumL (((allr n).filter p).map f) = Sm n (fun x => if p x then f x else 0)
  | 0, p, f => by
    show sumL ((List.filter p [[]]).map f) = if p [] then f [] else 0
    by_cases c : p [] = true
    · rw [List.filter_cons_of_pos c, if_pos c]; exact Int.add_zero _
    · rw [List.filter_cons_of_neg c, if_neg c]; rfl
  | n + 1, p, f => by
    have E : ∀ b : Bool, sumL ((((allr n).map (b :: ·)).filter p).map f) = Sm n (fun x => if p (b :: x) then f (b :: x) else 0) := fun b => by
      rw [List.filter_map, List.map_map]
      exact Sm_list n (fun x => p (b :: x)) (fun x => f (b :: x))
    unfold allr Sm
    rw [List.filter_append, List.map_append, sumL_app, E false, E true]
theorem len_list (n : Nat) (p : Bs → Bool) : (((allr n).filter p).length : Int) = Sm n (fun x => if p x then 1 else 0) := by
  rw [← Sm_list n p (fun _ => 1)]
  generalize (allr n).filter p = xs
  induction xs with
  | nil => rfl
  | cons x xs ih =>
    show ((xs.length + 1 : Nat) : Int) = 1 + sumL (xs.map fun _ => 1)
    rw [← ih]; omega
/-! ### checks, their sums, and what they leave -/
def ans (T : List Bs) (x : Bs) : Bs := T.map (dot · x)
def spl : Bs → List Bs → Bs → Bs
  | acc, t :: T, b :: bs => spl (if b then xr acc t else acc) T bs
  | acc, _, _ => acc
theorem spl_len : ∀ {n : Nat} {T : List Bs} {acc bs : Bs}, acc.length = n → (∀ t ∈ T, t.length = n) → (spl acc T bs).length = n
  | n, [], acc, bs, h, _ => by cases bs <;> exact h
  | n, t :: T, acc, [], h, _ => h
  | n, t :: T, acc, b :: bs, h, hT => by
    unfold spl
    refine spl_len ?_ fun u hu => hT u (List.mem_cons_of_mem _ hu)
    cases b
    · exact h
    · exact xr_len h (hT t List.mem_cons_self)
theorem dot_spl : ∀ {n : Nat} {T : List Bs} {acc bs x : Bs}, acc.length = n → (∀ t ∈ T, t.length = n) → dot (spl acc T bs) x = (dot acc x ^^ dot bs (ans T x))
  | n, [], acc, bs, x, h, _ => by cases bs <;> exact (Bool.xor_false _).symm
  | n, t :: T, acc, [], x, h, _ => (Bool.xor_false _).symm
  | n, t :: T, acc, b :: bs, x, h, hT => by
    have ht := hT t List.mem_cons_self
    unfold spl
    rw [dot_spl (n := n) (by cases b; exact h; exact xr_len h ht) fun u hu => hT u (List.mem_cons_of_mem _ hu)]
    show _ = (dot acc x ^^ ((b && dot t x) ^^ dot bs (ans T x)))
    cases b
    · rw [if_neg Bool.false_ne_true, Bool.false_and, Bool.false_xor]
    · show (dot (xr acc t) x ^^ _) = _
      rw [dot_xr h ht, Bool.true_and, Bool.xor_assoc]
section
variable {n : Nat} {T : List Bs} (hT : ∀ t ∈ T, t.length = n)
def inK (T : List Bs) (x : Bs) : Bool := ans T x == zr T.length
def Ker (n : Nat) (T : List Bs) : List Bs := (allr n).filter (inK T)
def inR (n : Nat) (T : List Bs) (y : Bs) : Bool := (allr T.length).any fun b => spl (zr n) T b == y
theorem inR_iff {y : Bs} : inR n T y = true ↔ ∃ b : Bs, b.length = T.length ∧ spl (zr n) T b = y := by
  unfold inR
  rw [List.any_eq_true]
  constructor
  · rintro ⟨b, h, e⟩; exact ⟨b, mem_allr.mp h, eq_of_beq e⟩
  · rintro ⟨b, h, e⟩; exact ⟨b, mem_allr.mpr h, beq_iff_eq.mpr e⟩
def Nn (n : Nat) (T : List Bs) (y : Bs) : Int := Sm T.length (fun b => if spl (zr n) T b = y then 1 else 0)
def Ff (n : Nat) (T : List Bs) (y : Bs) : Int := Sm n (fun x => if inK T x then sg (dot x y) else 0)
def cK (n : Nat) (T : List Bs) : Int := Sm n (fun x => if inK T x then 1 else 0)
include hT in
theorem two_ways {y : Bs} (hy : y.length = n) : 2 ^ T.length * Ff n T y = 2 ^ n * Nn n T y := by
  have A : Sm n (fun x => Sm T.length fun b => sg (dot x y) * sg (dot x (spl (zr n) T b))) = 2 ^ T.length * Ff n T y := by
    unfold Ff
    rw [← Sm_mul]
    refine Sm_congr fun x _ => ?_
    rw [Sm_mul]
    have : Sm T.length (fun b => sg (dot x (spl (zr n) T b))) = if ans T x = zr T.length then 2 ^ T.length else 0 := by
      rw [← Sm_char (show (ans T x).length = T.length from List.length_map _)]
      exact Sm_congr fun b _ => by rw [dot_comm x, dot_spl (zr_len n) hT, dot_zr, Bool.false_xor]
    rw [this]
    unfold inK
    by_cases c : ans T x = zr T.length
    · rw [if_pos c, if_pos (beq_iff_eq.mpr c)]; exact Int.mul_comm _ _
    · rw [if_neg c, if_neg fun q => c (eq_of_beq q)]; omega
  rw [← A, Sm_swap]
  unfold Nn
  rw [← Sm_mul]
  refine Sm_congr fun b _ => ?_
  have hs : (spl (zr n) T b).length = n := spl_len (zr_len n) hT
  have : Sm n (fun x => sg (dot x y) * sg (dot x (spl (zr n) T b))) = if xr y (spl (zr n) T b) = zr n then 2 ^ n else 0 := by
    rw [← Sm_char (xr_len hy hs)]
    exact Sm_congr fun x _ => by rw [dot_comm x (xr _ _), dot_xr hy hs, sg_xor, dot_comm y, dot_comm (spl _ _ _)]
  rw [this]
  by_cases c : spl (zr n) T b = y
  · rw [if_pos c, c, if_pos (xr_self hy)]; omega
  · rw [if_neg c, if_neg fun q => c (xr_zr hy hs q).symm]; omega
theorem zr_inK : inK T (zr n) = true := by
  unfold inK
  refine beq_iff_eq.mpr ?_
  unfold ans zr
  rw [List.map_congr_left (g := fun _ => false) fun t _ => by rw [dot_comm]; exact dot_zr n t]
  exact List.map_const' ..
theorem cK_pos : 0 < cK n T := by
  have := Sm_ge (n := n) (f := fun x => if inK T x then (1 : Int) else 0) (fun x => by show (0 : Int) ≤ if inK T x then 1 else 0; split <;> omega) (zr_len n)
  have h : (if inK T (zr n) then (1 : Int) else 0) ≤ cK n T := this
  rw [if_pos zr_inK] at h; omega
theorem dot_zero_right (bs : Bs) (m : Nat) : dot bs (zr m) = false := by rw [dot_comm]; exact dot_zr m bs
include hT in
theorem Ff_of {y : Bs} (h : ∀ x, inK T x = true → x.length = n → dot x y = false) : Ff n T y = cK n T := by
  refine Sm_congr fun x hx => ?_
  by_cases c : inK T x = true
  · rw [if_pos c, if_pos c, h x c hx]; rfl
  · rw [if_neg c, if_neg c]
include hT in
theorem R_perp {y : Bs} (h : inR n T y = true) {x : Bs} (hx : inK T x = true) : dot x y = false := by
  obtain ⟨b, _, rfl⟩ := inR_iff.mp h
  rw [dot_comm, dot_spl (zr_len n) hT, dot_zr, eq_of_beq hx, dot_zero_right]; rfl
theorem Nn_zero {y : Bs} (h : inR n T y ≠ true) : Nn n T y = 0 := by
  unfold Nn
  rw [Sm_congr (g := fun _ => 0) fun b hb => if_neg fun q => h (inR_iff.mpr ⟨b, hb, q⟩), Sm_const]; omega
theorem two_pos (k : Nat) : (0 : Int) < 2 ^ k := Int.pow_pos (by decide)
include hT in
theorem Ff_eq {y : Bs} (hy : y.length = n) : Ff n T y = if inR n T y then cK n T else 0 := by
  by_cases c : inR n T y = true
  · rw [if_pos c]; exact Ff_of hT fun x h _ => R_perp hT c h
  · rw [if_neg c]
    have := two_ways hT hy
    rw [Nn_zero c, Int.mul_zero] at this
    rcases Int.mul_eq_zero.mp this with h | h
    · have := two_pos T.length; omega
    · exact h
include hT in
/-- what is even against all that the checks leave is a sum of checks -/
theorem dual {y : Bs} (hy : y.length = n) : inR n T y = true ↔ ∀ x ∈ Ker n T, dot x y = false := by
  constructor
  · intro h x hx; exact R_perp hT h (List.mem_filter.mp hx).2
  · intro h
    apply Decidable.byContradiction
    intro c
    have e1 := Ff_of hT (y := y) fun x hx hl => h x (List.mem_filter.mpr ⟨mem_allr.mpr hl, hx⟩)
    rw [Ff_eq hT hy, if_neg c] at e1
    have := cK_pos (n := n) (T := T); omega
include hT in
theorem sizes : Sm n (fun y => if inR n T y then 1 else 0) * cK n T = 2 ^ n := by
  have A : Sm n (Nn n T) = 2 ^ T.length := by
    unfold Nn
    rw [Sm_swap, Sm_congr (g := fun _ => 1) fun b _ => ?_, Sm_const, Int.mul_one]
    exact (Sm_congr fun y _ => by
      by_cases c : spl (zr n) T b = y
      · rw [if_pos c, if_pos c.symm]
      · rw [if_neg c, if_neg fun q => c q.symm]).trans (Sm_one (spl_len (bs := b) (zr_len n) hT))
  have B : 2 ^ n * Sm n (Nn n T) = 2 ^ T.length * (Sm n (fun y => if inR n T y then 1 else 0) * cK n T) := by
    rw [← Sm_mul, Int.mul_comm (Sm n _) (cK n T), ← Sm_mul, ← Sm_mul]
    refine Sm_congr fun y hy => ?_
    rw [← two_ways hT hy, Ff_eq hT hy]
    by_cases c : inR n T y = true
    · rw [if_pos c, if_pos c, Int.mul_one]
    · rw [if_neg c, if_neg c, Int.mul_zero, Int.mul_zero, Int.mul_zero]
  rw [A, Int.mul_comm] at B
  exact (Int.eq_of_mul_eq_mul_left (Int.ne_of_gt (two_pos T.length)) B).symm
include hT in
/-- the rows of an answer, weighed -/
theorem coset_sum {x0 y : Bs} (h0 : x0.length = n) (hy : y.length = n) : Sm n (fun x => if ans T x == ans T x0 then sg (dot x y) else 0) = sg (dot x0 y) * if inR n T y then cK n T else 0 := by
  rw [← Ff_eq hT hy]
  unfold Ff
  rw [← Sm_mul, ← Sm_shift (a := x0) (fun x => if ans T x == ans T x0 then sg (dot x y) else 0) h0]
  refine Sm_congr fun x hx => ?_
  have e : (ans T (xr x x0) == ans T x0) = inK T x := by
    unfold inK
    rw [Bool.eq_iff_iff, beq_iff_eq, beq_iff_eq]
    unfold ans zr
    have d : ∀ t, dot t (xr x x0) = (dot t x ^^ dot t x0) := fun t => by rw [dot_comm, dot_xr hx h0, dot_comm x, dot_comm x0]
    generalize T = U
    induction U with
    | nil => exact ⟨fun _ => rfl, fun _ => rfl⟩
    | cons t U ih =>
      rw [List.map_cons, List.map_cons, List.map_cons, List.length_cons, List.replicate_succ, List.cons.injEq, List.cons.injEq, d]
      constructor
      · rintro ⟨h, h2⟩; exact ⟨by revert h; cases dot t x <;> cases dot t x0 <;> decide, ih.mp h2⟩
      · rintro ⟨h, h2⟩; exact ⟨by rw [h, Bool.false_xor], ih.mpr h2⟩
  rw [e, dot_xr hx h0, sg_xor]
  by_cases c : inK T x = true
  · rw [if_pos c, if_pos c, Int.mul_comm]
  · rw [if_neg c, if_neg c, Int.mul_zero]
end
end K74

set_option Elab.async false
set_option linter.all false
set_option maxRecDepth 100000
set_option maxHeartbeats 4000000
set_option autoImplicit false
namespace K74
open PySem PySem.Spec PyProof.Rows L2 SK
/-! ### masks -/
def bi : Bool → Int
  | false => .ofNat 0
  | true => .ofNat 1
def en (x : Bs) : List Int := x.map bi
def dm (m : Nat) : Nat → Bs → Bool
  | _, [] => false
  | i, b :: x => (m.testBit i && b) ^^ dm m (i + 1) x
def nat : Bs → Nat
  | [] => 0
  | b :: r => b.toNat + 2 * nat r
theorem dm_shift (m k : Nat) (h : ∀ i, k.testBit (i + 1) = m.testBit i) : ∀ (x : Bs) (i : Nat), dm k (i + 1) x = dm m i x
  | [], _ => rfl
  | b :: x, i => by
    show (k.testBit (i + 1) && b ^^ dm k (i + 1 + 1) x) = (m.testBit i && b ^^ dm m (i + 1) x)
    rw [h, dm_shift m k h x (i + 1)]
theorem bit_succ (b : Bool) (m i : Nat) : (b.toNat + 2 * m).testBit (i + 1) = m.testBit i := by
  rw [Nat.testBit_succ]
  congr 1
  cases b
  · show (0 + 2 * m) / 2 = m; omega
  · show (1 + 2 * m) / 2 = m; omega
theorem bit_zero (b : Bool) (m : Nat) : (b.toNat + 2 * m).testBit 0 = b := by
  rw [Nat.testBit_zero]
  cases b
  · show decide ((0 + 2 * m) % 2 = 1) = false
    exact decide_eq_false (by omega)
  · show decide ((1 + 2 * m) % 2 = 1) = true
    exact decide_eq_true (by omega)
theorem dm_zero : ∀ (x : Bs) (i : Nat), dm 0 i x = false
  | [], _ => rfl
  | b :: x, i => by
    show ((0 : Nat).testBit i && b ^^ dm 0 (i + 1) x) = false
    rw [dm_zero x, Nat.zero_testBit]; rfl
theorem dm_nat : ∀ (r x : Bs), dm (nat r) 0 x = dot r x
  | [], x => dm_zero x 0
  | b :: r, [] => rfl
  | b :: r, c :: x => by
    show ((b.toNat + 2 * nat r).testBit 0 && c ^^ dm (b.toNat + 2 * nat r) (0 + 1) x) = (b && c ^^ dot r x)
    rw [bit_zero, dm_shift (nat r) _ (bit_succ b (nat r)), dm_nat r x]
theorem dm_xor (m k : Nat) : ∀ (x : Bs) (i : Nat), dm (m ^^^ k) i x = (dm m i x ^^ dm k i x)
  | [], _ => rfl
  | b :: x, i => by
    show ((m ^^^ k).testBit i && b ^^ dm (m ^^^ k) (i + 1) x) = ((m.testBit i && b ^^ dm m (i + 1) x) ^^ (k.testBit i && b ^^ dm k (i + 1) x))
    rw [dm_xor m k x, Nat.testBit_xor]
    cases m.testBit i <;> cases k.testBit i <;> cases b <;> cases dm m (i + 1) x <;> cases dm k (i + 1) x <;> rfl
theorem dm_app (m : Nat) (y : Bool) : ∀ (x : Bs) (i : Nat), dm m i (x ++ [y]) = (dm m i x ^^ (m.testBit (i + x.length) && y))
  | [], i => by
    show (m.testBit i && y ^^ false) = (false ^^ (m.testBit (i + 0) && y))
    rw [Bool.xor_false, Bool.false_xor]; rfl
  | b :: x, i => by
    show (m.testBit i && b ^^ dm m (i + 1) (x ++ [y])) = ((m.testBit i && b ^^ dm m (i + 1) x) ^^ (m.testBit (i + (x.length + 1)) && y))
    rw [dm_app m y x, show i + 1 + x.length = i + (x.length + 1) by omega, Bool.xor_assoc]
theorem nat_lt : ∀ r : Bs, nat r < 2 ^ r.length
  | [] => Nat.one_pos
  | b :: r => by
    have := nat_lt r
    show b.toNat + 2 * nat r < 2 ^ (r.length + 1)
    rw [Nat.pow_succ]
    have : b.toNat ≤ 1 := by cases b <;> decide
    omega
def top (m : Nat) : Nat := if m = 0 then 0 else m.log2 + 1
theorem top_hi {m j : Nat} (h : top m ≤ j) : m.testBit j = false := by
  unfold top at h
  split at h
  · rename_i c; rw [c]; exact Nat.zero_testBit j
  · exact Nat.testBit_lt_two_pow (Nat.lt_of_lt_of_le Nat.lt_log2_self (Nat.pow_le_pow_right (by decide) h))
theorem top_at {m t : Nat} (h : top m = t + 1) : m.testBit t = true := by
  unfold top at h
  split at h
  · cases h
  · rename_i c
    rw [← Nat.succ.inj h]; exact Nat.testBit_log2 c
theorem top_le {m k : Nat} (h : m < 2 ^ k) : top m ≤ k := by
  unfold top
  split
  · exact Nat.zero_le k
  · rename_i c; exact (Nat.log2_lt c).mpr h
theorem top_pos {m : Nat} (h : m ≠ 0) : ∃ t, top m = t + 1 := by
  unfold top; rw [if_neg h]; exact ⟨_, rfl⟩
theorem top_xor {m k : Nat} (h : m ≠ 0) (e : top k = top m) : top (m ^^^ k) < top m := by
  obtain ⟨t, ht⟩ := top_pos h
  rw [ht]
  refine Nat.lt_succ_of_le (top_le (Nat.lt_pow_two_of_testBit _ fun j hj => ?_))
  rw [Nat.testBit_xor]
  by_cases c : j = t
  · rw [c, top_at ht, top_at (e.trans ht)]; rfl
  · rw [top_hi (m := m) (by omega), top_hi (m := k) (by omega)]; rfl
/-! ### heads -/
abbrev Hd := Nat × Nat × Bool
def fnd (H : List Hd) (t : Nat) : Option Hd := H.find? fun h => h.1 == t
structure OkH (n : Nat) (H : List Hd) : Prop where
  each : ∀ h ∈ H, h.1 = top h.2.1 ∧ h.2.1 ≠ 0 ∧ h.2.1 < 2 ^ n
  nd : (H.map (·.1)).Nodup
def Sol (H : List Hd) (x : Bs) : Prop := ∀ h ∈ H, dm h.2.1 0 x = h.2.2
def eH (H : List Hd) : List (Int × (Int × Int)) := H.map fun h => (.ofNat h.1, (.ofNat h.2.1, bi h.2.2))
def eQ (H : List Hd) : List (Int × Int) := H.map fun h => (.ofNat h.1, .ofNat h.2.1)
theorem iEq_nat (a b : Nat) : iEq (.ofNat a) (.ofNat b) = (a == b) := by rw [iEq_eq, Bool.eq_iff_iff, decide_eq_true_eq, beq_iff_eq]; exact ⟨Int.ofNat.inj, congrArg _⟩
theorem fnd_H (t : Nat) : ∀ H : List Hd, tFnd iEq (eH H) (.ofNat t) = (fnd H t).map fun h => (.ofNat h.2.1, bi h.2.2)
  | [] => rfl
  | h :: H => by
    show bIf (iEq (.ofNat h.1) (.ofNat t)) (some (Int.ofNat h.2.1, bi h.2.2)) (tFnd iEq (eH H) (.ofNat t)) = _
    unfold fnd
    rw [iEq_nat, List.find?_cons, fnd_H t H]
    cases h.1 == t <;> rfl
theorem fnd_Q (t : Nat) : ∀ H : List Hd, tFnd iEq (eQ H) (.ofNat t) = (fnd H t).map fun h => .ofNat h.2.1
  | [] => rfl
  | h :: H => by
    show bIf (iEq (.ofNat h.1) (.ofNat t)) (some (Int.ofNat h.2.1)) (tFnd iEq (eQ H) (.ofNat t)) = _
    unfold fnd
    rw [iEq_nat, List.find?_cons, fnd_Q t H]
    cases h.1 == t <;> rfl
theorem fnd_some {H : List Hd} {t : Nat} {h : Hd} (e : fnd H t = some h) : h ∈ H ∧ h.1 = t := ⟨List.mem_of_find?_eq_some e, by have := List.find?_some e; exact eq_of_beq this⟩
theorem fnd_none {H : List Hd} {t : Nat} (e : fnd H t = none) : t ∉ H.map (·.1) := fun q => by
  obtain ⟨h, hm, rfl⟩ := List.mem_map.mp q
  exact List.find?_eq_none.mp e h hm (beq_self_eq_true _)
theorem fnd_mem {n : Nat} {H : List Hd} (ok : OkH n H) {h : Hd} (hm : h ∈ H) : fnd H h.1 = some h := by
  have nd := ok.nd
  clear ok
  induction H with
  | nil => cases hm
  | cons g H ih =>
    unfold fnd
    rw [List.find?_cons]
    rw [List.map_cons, List.nodup_cons] at nd
    rcases List.mem_cons.mp hm with rfl | hm
    · rw [beq_self_eq_true]
    · have : (g.1 == h.1) = false := beq_eq_false_iff_ne.mpr fun q => nd.1 (q ▸ List.mem_map_of_mem hm)
      rw [this]; exact ih hm nd.2
def cnt (H : List Hd) (p : Nat) : Nat := H.countP fun h => decide (h.1 ≤ p)
theorem cnt_succ {n : Nat} {H : List Hd} (ok : OkH n H) (p : Nat) : cnt H (p + 1) = cnt H p + if (fnd H (p + 1)).isSome then 1 else 0 := by
  have nd := ok.nd
  clear ok
  induction H with
  | nil => rfl
  | cons g H ih =>
    rw [List.map_cons, List.nodup_cons] at nd
    have ih := ih nd.2
    unfold cnt fnd at ih ⊢
    rw [List.countP_cons, List.countP_cons, List.find?_cons, ih]
    by_cases c : g.1 = p + 1
    · have e : List.find? (fun h => h.1 == p + 1) H = none := List.find?_eq_none.mpr fun h hm q => nd.1 (by rw [c, ← eq_of_beq q]; exact List.mem_map_of_mem hm)
      rw [e, show (g.1 == p + 1) = true from beq_iff_eq.mpr c, if_pos (decide_eq_true (show g.1 ≤ p + 1 by omega)), if_neg (show ¬ decide (g.1 ≤ p) = true by rw [decide_eq_true_eq]; omega)]; rfl
    · rw [show (g.1 == p + 1) = false from beq_eq_false_iff_ne.mpr c]
      by_cases d : g.1 ≤ p
      · rw [if_pos (decide_eq_true (show g.1 ≤ p + 1 by omega)), if_pos (decide_eq_true d)]; dsimp only; omega
      · rw [if_neg (show ¬ decide (g.1 ≤ p + 1) = true by rw [decide_eq_true_eq]; omega), if_neg (show ¬ decide (g.1 ≤ p) = true by rw [decide_eq_true_eq]; omega)]; dsimp only; omega
theorem cnt_zero {n : Nat} {H : List Hd} (ok : OkH n H) : cnt H 0 = 0 := by
  unfold cnt
  refine List.countP_eq_zero.mpr fun h hm => ?_
  obtain ⟨t, ht⟩ := top_pos (ok.each h hm).2.1
  rw [(ok.each h hm).1, ht, decide_eq_true_eq]; omega
theorem cnt_le {n : Nat} {H : List Hd} (ok : OkH n H) : ∀ p, cnt H p ≤ p
  | 0 => by rw [cnt_zero ok]; exact Nat.le_refl 0
  | p + 1 => by
    rw [cnt_succ ok]
    have := cnt_le ok p
    split <;> omega
theorem cnt_all {n : Nat} {H : List Hd} (ok : OkH n H) : cnt H n = H.length := by
  unfold cnt
  refine List.countP_eq_length.mpr fun h hm => ?_
  rw [(ok.each h hm).1]; exact decide_eq_true (top_le (ok.each h hm).2.2)
theorem OkH.len {n : Nat} {H : List Hd} (ok : OkH n H) : H.length ≤ n := cnt_all ok ▸ cnt_le ok n
/-! small facts -/
theorem xor32 : allB (fun a => allB (fun b => iEq (Builtin.bitXor (.ofNat a) (.ofNat b)) (.ofNat (a ^^^ b))) 32) 32 = true := by decide +kernel
theorem xor_nat {a b : Nat} (ha : a < 32) (hb : b < 32) : Builtin.bitXor (.ofNat a) (.ofNat b) = .ofNat (a ^^^ b) := by
  have := allB_lt (allB_lt xor32 a ha) b hb
  rw [iEq_eq] at this
  exact of_decide_eq_true this
theorem xor_bi : ∀ a b : Bool, Builtin.bitXor (bi a) (bi b) = bi (a ^^ b) := by decide
theorem tBits_nat (m : Nat) : tBits (.ofNat m) = .ofNat (top m) := by
  show Int.ofNat (bIf (Nat.beq m 0) 0 (Nat.succ (Nat.log2 m))) = _
  unfold top
  rw [bIf_eq]
  congr 1
  by_cases c : m = 0
  · rw [if_pos c, c]; rfl
  · rw [if_neg c, if_neg (fun q => c (Nat.eq_of_beq_eq_true q))]
/-! ### the loops -/
noncomputable def cA (s2 : List (Int × (Int × Int))) : Int × Int → Option Bool := fun s14 => (some (bAnd (bNot (iEq s14.2 (Int.ofNat 0))) (tSome (tFnd iEq s2 (tBits s14.2)))))
noncomputable def gA (ρ : Type) (s2 : List (Int × (Int × Int))) : Int × Int → Option (Res (Int × Int) (Int × Int) ρ) := fun s14 =>
  (tBind (tFnd iEq s2 (tBits s14.2)) fun v17 =>
  (tLet v17 fun p18 =>
  (tLet (Builtin.bitXor s14.2 p18.1) fun mask_19 =>
  (tLet (Builtin.bitXor s14.1 p18.2) fun bit_20 =>
  (some (.nx (bit_20, mask_19)))))))
noncomputable def cP (s2 : List (Int × Int)) : Int → Option Bool := fun s6 => (some (bAnd (bNot (iEq s6 (Int.ofNat 0))) (tSome (tFnd iEq s2 (tBits s6)))))
noncomputable def gP (ρ : Type) (s2 : List (Int × Int)) : Int → Option (Res Int Int ρ) := fun s6 =>
  (tBind (tFnd iEq s2 (tBits s6)) fun v9 =>
  (tLet (Builtin.bitXor s6 v9) fun mask_10 =>
  (some (.nx mask_10))))
theorem tWh_succ {σ ρ : Type} (c : σ → Option Bool) (f : σ → Option (Res σ σ ρ)) (n : Nat) (s : σ) : tWh c f (n + 1) s = tBind (c s) fun b => bIf b (tBind (f s) fun r => Res.rec (motive := fun _ => Option (Lp σ ρ)) (tWh c f n) (fun r => some (.out r)) (fun s => some (.go s)) (tWh c f n) r) (some (.go s)) := rfl
theorem red {n : Nat} {H : List Hd} (ok : OkH n H) (hn : n ≤ 5) (ρ ρ' : Type) : ∀ (k m : Nat) (b : Bool), top m < k → m < 2 ^ n → ∃ (m' : Nat) (b' : Bool),
    tWh (cA (eH H)) (gA ρ (eH H)) k (bi b, .ofNat m) = some (.go (bi b', .ofNat m')) ∧ tWh (cP (eQ H)) (gP ρ' (eQ H)) k (.ofNat m) = some (.go (.ofNat m')) ∧
    m' < 2 ^ n ∧ (m' ≠ 0 → fnd H (top m') = none) ∧ ∀ x, Sol H x → (dm m' 0 x = b' ↔ dm m 0 x = b)
  | 0, m, b, h, _ => nomatch h
  | k + 1, m, b, h, hm => by
    have pw : ∀ {a}, a < 2 ^ n → a < 32 := fun ha => Nat.lt_of_lt_of_le ha (show 2 ^ n ≤ 2 ^ 5 from Nat.pow_le_pow_right (by decide) hn)
    rw [tWh_succ, tWh_succ]
    have ea : cA (eH H) (bi b, .ofNat m) = some (bAnd (bNot (m == 0)) (fnd H (top m)).isSome) := by
      unfold cA; rw [iEq_nat, tBits_nat, fnd_H, tSome_eq, Option.isSome_map]
    have ep : cP (eQ H) (.ofNat m) = some (bAnd (bNot (m == 0)) (fnd H (top m)).isSome) := by
      unfold cP; rw [iEq_nat, tBits_nat, fnd_Q, tSome_eq, Option.isSome_map]
    rw [ea, ep, tBind_ok, tBind_ok]
    by_cases c : m = 0
    · refine ⟨m, b, ?_, ?_, hm, fun q => absurd c q, fun x _ => Iff.rfl⟩ <;> rw [beq_iff_eq.mpr c] <;> rfl
    · rw [beq_eq_false_iff_ne.mpr c]
      cases e : fnd H (top m) with
      | none => exact ⟨m, b, rfl, rfl, hm, fun _ => e, fun x _ => Iff.rfl⟩
      | some g =>
        obtain ⟨g1, g2⟩ := fnd_some e
        obtain ⟨o1, o2, o3⟩ := ok.each g g1
        have hx : m ^^^ g.2.1 < 2 ^ n := Nat.xor_lt_two_pow hm o3
        have fa : gA ρ (eH H) (bi b, .ofNat m) = some (.nx (bi (b ^^ g.2.2), .ofNat (m ^^^ g.2.1))) := by
          unfold gA
          rw [tBits_nat, fnd_H, e, Option.map_some, tBind_ok, tLet_ok, tLet_ok, tLet_ok, xor_nat (pw hm) (pw o3), xor_bi]
        have fp : gP ρ' (eQ H) (.ofNat m) = some (.nx (.ofNat (m ^^^ g.2.1))) := by
          unfold gP
          rw [tBits_nat, fnd_Q, e, Option.map_some, tBind_ok, tLet_ok, xor_nat (pw hm) (pw o3)]
        rw [fa, fp]
        have ht := top_xor c (o1.symm.trans g2)
        obtain ⟨m', b', r1, r2, r3, r4, r5⟩ := red ok hn ρ ρ' k (m ^^^ g.2.1) (b ^^ g.2.2) (by omega) hx
        refine ⟨m', b', r1, r2, r3, r4, fun x hs => (r5 x hs).trans ?_⟩
        rw [dm_xor, hs g g1]
        cases dm m 0 x <;> cases g.2.2 <;> cases b <;> decide

noncomputable def fA (s2 : (List (Int × (Int × Int)))) (x3 : ((List Int) × Int)) : Option (Res (List (Int × (Int × Int))) (List (Int × (Int × Int))) (Option (List (Int × ((List Int) × Int))))) :=
  (tBind (t_mask_of x3.1) fun v12 =>
  (tLet v12 fun mask_13 =>
  (tLp (tWh (cA s2) (gA _ s2) 2000 (x3.2, mask_13)) fun s14 =>
  (bIf (bNot (iEq s14.2 (Int.ofNat 0)))
  (tBind (tPut iEq s2 (tBits s14.2) (s14.2, s14.1)) fun heads_16 =>
  (some (.nx heads_16)))
  (bIf (bNot (iEq s14.1 (Int.ofNat 0)))
  (some (.rt none))
  (some (.nx s2)))))))
noncomputable def fP (s2 : (List (Int × Int))) (x3 : (List Int)) : Option (Res (List (Int × Int)) (List (Int × Int)) Int) :=
  (tBind (t_mask_of x3) fun v4 =>
  (tLet v4 fun mask_5 =>
  (tLp (tWh (cP s2) (gP _ s2) 2000 mask_5) fun s6 =>
  (bIf (bNot (iEq s6 (Int.ofNat 0)))
  (tBind (tPut iEq s2 (tBits s6) s6) fun heads_8 =>
  (some (.nx heads_8)))
  (some (.nx s2))))))
theorem mask5 : allB (fun n => allL (fun r => (t_mask_of (en r)).isSome && (match t_mask_of (en r) with | some v => iEq v (.ofNat (nat r)) | none => false)) (allr n)) 6 = true := by decide +kernel
theorem mask_nat {n : Nat} (hn : n ≤ 5) {r : Bs} (h : r.length = n) : t_mask_of (en r) = some (.ofNat (nat r)) := by
  have := allL_mem (allB_lt mask5 n (by omega)) r (mem_allr.mpr h)
  revert this
  cases t_mask_of (en r) with
  | none => intro q; cases q
  | some v => intro q; have q := (Bool.and_eq_true_iff.mp q).2; have q : iEq v (.ofNat (nat r)) = true := q; rw [iEq_eq, decide_eq_true_eq] at q; rw [q]
theorem put_A {H : List Hd} {h : Hd} (e : fnd H h.1 = none) (hl : H.length < 16777216) : tPut iEq (eH H) (.ofNat h.1) (.ofNat h.2.1, bi h.2.2) = some (eH (H ++ [h])) := by
  unfold tPut tPutK
  rw [fnd_H, e, Option.map_none, bIf_eq, if_pos (by rw [tLenN_eq]; unfold eH; rw [List.length_map]; exact Nat.ble_eq_true_of_le hl), tCat_eq]
  show some (eH H ++ _) = _
  unfold eH
  rw [List.map_append]; rfl
theorem put_P {H : List Hd} {h : Hd} (e : fnd H h.1 = none) (hl : H.length < 16777216) : tPut iEq (eQ H) (.ofNat h.1) (.ofNat h.2.1) = some (eQ (H ++ [h])) := by
  unfold tPut tPutK
  rw [fnd_Q, e, Option.map_none, bIf_eq, if_pos (by rw [tLenN_eq]; unfold eQ; rw [List.length_map]; exact Nat.ble_eq_true_of_le hl), tCat_eq]
  show some (eQ H ++ _) = _
  unfold eQ
  rw [List.map_append]; rfl
theorem OkH.app {n : Nat} {H : List Hd} (ok : OkH n H) {m : Nat} {b : Bool} (h0 : m ≠ 0) (h1 : m < 2 ^ n) (e : fnd H (top m) = none) : OkH n (H ++ [(top m, m, b)]) := ⟨fun h hm => by
  rcases List.mem_append.mp hm with hm | hm
  · exact ok.each h hm
  · cases List.mem_singleton.mp hm; exact ⟨rfl, h0, h1⟩, by
  rw [List.map_append, List.nodup_append]
  refine ⟨ok.nd, List.nodup_cons.mpr ⟨List.not_mem_nil, List.nodup_nil⟩, fun a ha c hc q => ?_⟩
  cases List.mem_singleton.mp hc
  have q : a = top m := q
  rw [q] at ha
  exact fnd_none e ha⟩
theorem Sol_app {H : List Hd} {h : Hd} {x : Bs} : Sol (H ++ [h]) x ↔ Sol H x ∧ dm h.2.1 0 x = h.2.2 := by
  unfold Sol
  constructor
  · intro q; exact ⟨fun g hg => q g (List.mem_append_left _ hg), q h (List.mem_append_right _ List.mem_cons_self)⟩
  · rintro ⟨q, q2⟩ g hg
    rcases List.mem_append.mp hg with hg | hg
    · exact q g hg
    · cases List.mem_singleton.mp hg; exact q2
theorem lp_go {σ ρ σ' τ : Type} {s : σ} {k : σ → Option (Res σ' τ ρ)} : tLp (some (.go s)) k = k s := rfl
theorem step {n : Nat} {H : List Hd} (ok : OkH n H) (hn : n ≤ 5) {r : Bs} (hr : r.length = n) (c : Bool) :
    (∃ H', fA (eH H) (en r, bi c) = some (.nx (eH H')) ∧ fP (eQ H) (en r) = some (.nx (eQ H')) ∧ OkH n H' ∧ ∀ x, Sol H' x ↔ Sol H x ∧ dot r x = c) ∨
    (fA (eH H) (en r, bi c) = some (.rt none) ∧ ∀ x, Sol H x → dot r x ≠ c) := by
  have hl : H.length < 16777216 := by have := ok.len; omega
  have hm : nat r < 2 ^ n := hr ▸ nat_lt r
  obtain ⟨m', b', e1, e2, e3, e4, e5⟩ := red ok hn (Option (List (Int × ((List Int) × Int)))) Int 2000 (nat r) c (by have := top_le hm; omega) hm
  have e5 : ∀ x, Sol H x → (dm m' 0 x = b' ↔ dot r x = c) := fun x hs => by rw [e5 x hs, dm_nat]
  unfold fA fP
  rw [mask_nat hn hr, tBind_ok, tLet_ok, tBind_ok, tLet_ok, e1, e2]
  rw [lp_go, lp_go]
  dsimp only
  rw [iEq_nat, tBits_nat]
  by_cases z : m' = 0
  · subst z
    have d0 : ∀ x, dm 0 0 x = false := fun x => dm_zero x 0
    cases b' with
    | true => exact .inr ⟨rfl, fun x hs q => by have := (e5 x hs).mpr q; rw [d0] at this; cases this⟩
    | false => exact .inl ⟨H, rfl, rfl, ok, fun x => ⟨fun hs => ⟨hs, (e5 x hs).mp (d0 x)⟩, fun hs => hs.1⟩⟩
  · have e4 := e4 z
    rw [beq_eq_false_iff_ne.mpr z]
    refine .inl ⟨H ++ [(top m', m', b')], ?_, ?_, ok.app z e3 e4, fun x => ?_⟩
    · show tBind (tPut iEq (eH H) (.ofNat (top m')) (.ofNat m', bi b')) _ = _
      rw [put_A (h := (top m', m', b')) e4 hl]; rfl
    · show tBind (tPut iEq (eQ H) (.ofNat (top m')) (.ofNat m')) _ = _
      rw [put_P (h := (top m', m', b')) e4 hl]; rfl
    · rw [Sol_app]
      exact ⟨fun q => ⟨q.1, (e5 x q.1).mp q.2⟩, fun q => ⟨q.1, (e5 x q.1).mpr q.2⟩⟩
/-- all equations, one behind another -/
theorem steps {n : Nat} (hn : n ≤ 5) : ∀ (T : List Bs) (m : Bs) {H : List Hd}, OkH n H → (∀ t ∈ T, t.length = n) → m.length = T.length →
    (∃ H', yFor fA (tZip (T.map en) (en m)) (eH H) = some (.go (eH H')) ∧ yFor fP (T.map en) (eQ H) = some (.go (eQ H')) ∧ OkH n H' ∧ ∀ x, Sol H' x ↔ Sol H x ∧ ans T x = m) ∨
    (yFor fA (tZip (T.map en) (en m)) (eH H) = some (.out none) ∧ ∀ x, Sol H x → ans T x ≠ m)
  | [], [], H, ok, _, _ => .inl ⟨H, rfl, rfl, ok, fun x => ⟨fun h => ⟨h, rfl⟩, fun h => h.1⟩⟩
  | t :: T, c :: m, H, ok, hT, hm => by
    have ht := hT t List.mem_cons_self
    have A : ∀ s, yFor fA (tZip ((t :: T).map en) (en (c :: m))) s = tBind (fA s (en t, bi c)) fun r => Res.rec (motive := fun _ => Option (Lp _ _)) (yFor fA (tZip (T.map en) (en m))) (fun r => some (.out r)) (fun s => some (.go s)) (yFor fA (tZip (T.map en) (en m))) r := fun s => rfl
    have P : ∀ s, yFor fP ((t :: T).map en) s = tBind (fP s (en t)) fun r => Res.rec (motive := fun _ => Option (Lp _ _)) (yFor fP (T.map en)) (fun r => some (.out r)) (fun s => some (.go s)) (yFor fP (T.map en)) r := fun s => rfl
    have an : ∀ x, ans (t :: T) x = c :: m ↔ dot t x = c ∧ ans T x = m := fun x => List.cons.injEq .. ▸ Iff.rfl
    rw [A, P]
    rcases step ok hn ht c with ⟨H1, a1, a2, a3, a4⟩ | ⟨a1, a2⟩
    · rw [a1, a2]
      rcases steps hn T m a3 (fun u hu => hT u (List.mem_cons_of_mem _ hu)) (Nat.succ.inj hm) with ⟨H2, b1, b2, b3, b4⟩ | ⟨b1, b2⟩
      · exact .inl ⟨H2, b1, b2, b3, fun x => by rw [b4, a4, an, and_assoc]⟩
      · exact .inr ⟨b1, fun x hs q => b2 x ((a4 x).mpr ⟨hs, ((an x).mp q).1⟩) ((an x).mp q).2⟩
    · rw [a1]
      exact .inr ⟨rfl, fun x hs q => a2 x hs ((an x).mp q).1⟩
end K74

set_option Elab.async false
set_option linter.all false
set_option maxRecDepth 100000
set_option maxHeartbeats 4000000
set_option autoImplicit false
namespace K74
open PySem PySem.Spec PyProof.Rows L2 SK
/-! ### what is settled -/
def lw (t m : Nat) : List Int := ((List.range t).filter fun j => m.testBit j).map Int.ofNat
def eS (H : List Hd) : List (Int × (List Int × Int)) := H.map fun h => (.ofNat (h.1 - 1), (lw (h.1 - 1) h.2.1, bi h.2.2))
noncomputable def lowT (a b : Int) : Option (List Int) := tBind (tRng (Int.ofNat 0) (iSub a (Int.ofNat 1))) fun v8 =>
  (tBind (tFilO (fun x9 => (tBind (tShr b x9) fun v10 => (some (bNot (iEq (Builtin.bitAnd v10 (Int.ofNat 1)) (Int.ofNat 0)))))) (fun x9 => (some x9)) v8) tLim)
noncomputable def fB (s5 : (List (Int × ((List Int) × Int)))) (x6 : (Int × (Int × Int))) : Option (Res (List (Int × ((List Int) × Int))) (List (Int × ((List Int) × Int))) (Option (List (Int × ((List Int) × Int))))) :=
  (tBind (tRng (Int.ofNat 0) (iSub x6.1 (Int.ofNat 1))) fun v8 =>
  (tBind (tBind (tFilO (fun x9 => (tBind (tShr x6.2.1 x9) fun v10 => (some (bNot (iEq (Builtin.bitAnd v10 (Int.ofNat 1)) (Int.ofNat 0)))))) (fun x9 => (some x9)) v8) tLim) fun v11 =>
  (tBind (tPut iEq s5 (iSub x6.1 (Int.ofNat 1)) (v11, x6.2.2)) fun settled_7 =>
  (some (.nx settled_7)))))
noncomputable def sameL (o : Option (List Int)) (l : List Int) : Bool := Option.rec (motive := fun _ => Bool) false (fun v => lEq iEq v l) o
theorem sameL_eq {o : Option (List Int)} {l : List Int} (h : sameL o l = true) : o = some l := by
  cases o with
  | none => cases h
  | some v => have h : lEq iEq v l = true := h; rw [lEqI_eq, decide_eq_true_eq] at h; rw [h]
theorem low5 : allB (fun t => allB (fun m => sameL (lowT (.ofNat (t + 1)) (.ofNat m)) (lw t m)) 32) 5 = true := by decide +kernel
theorem low_eq {t m : Nat} (ht : t < 5) (hm : m < 32) : lowT (.ofNat (t + 1)) (.ofNat m) = some (lw t m) := sameL_eq (allB_lt (allB_lt low5 t ht) m hm)
theorem fnd_S {n : Nat} (t : Nat) : ∀ {H : List Hd}, (∀ h ∈ H, h.1 ≠ 0) → tFnd iEq (eS H) (.ofNat t) = (fnd H (t + 1)).map fun h => (lw (h.1 - 1) h.2.1, bi h.2.2)
  | [], _ => rfl
  | h :: H, z => by
    show bIf (iEq (.ofNat (h.1 - 1)) (.ofNat t)) (some (lw (h.1 - 1) h.2.1, bi h.2.2)) (tFnd iEq (eS H) (.ofNat t)) = _
    unfold fnd
    have h0 := z h List.mem_cons_self
    rw [iEq_nat, List.find?_cons, fnd_S (n := n) t fun g hg => z g (List.mem_cons_of_mem _ hg), show (h.1 - 1 == t) = (h.1 == t + 1) from by
      rw [Bool.eq_iff_iff, beq_iff_eq, beq_iff_eq]; omega]
    cases h.1 == t + 1 <;> rfl
theorem OkH.pos {n : Nat} {H : List Hd} (ok : OkH n H) : ∀ h ∈ H, h.1 ≠ 0 := fun h hm q => by
  obtain ⟨t, ht⟩ := top_pos (ok.each h hm).2.1
  rw [(ok.each h hm).1, ht] at q; cases q
theorem lt32 {n a : Nat} (hn : n ≤ 5) (ha : a < 2 ^ n) : a < 32 := Nat.lt_of_lt_of_le ha (show 2 ^ n ≤ 2 ^ 5 from Nat.pow_le_pow_right (by decide) hn)
theorem iSub1 (t : Nat) : iSub (.ofNat (t + 1)) (.ofNat 1) = .ofNat t := by rw [iSub_eq]; show ((t + 1 : Nat) : Int) - 1 = (t : Int); omega
theorem settle {n : Nat} (hn : n ≤ 5) : ∀ (H2 H1 : List Hd), OkH n (H1 ++ H2) → yFor fB (eH H2) (eS H1) = some (.go (eS (H1 ++ H2)))
  | [], H1, _ => by rw [List.append_nil]; rfl
  | h :: H2, H1, ok => by
    have hm : h ∈ H1 ++ h :: H2 := List.mem_append_right _ List.mem_cons_self
    obtain ⟨o1, o2, o3⟩ := ok.each h hm
    obtain ⟨t, ht⟩ := top_pos o2
    have h1 : h.1 = t + 1 := o1.trans ht
    have t5 : t < 5 := by have := top_le o3; omega
    have nf : fnd H1 (t + 1) = none := by
      cases e : fnd H1 (t + 1) with
      | none => rfl
      | some g =>
        obtain ⟨g1, g2⟩ := fnd_some e
        have nd := ok.nd
        rw [List.map_append, List.nodup_append] at nd
        exact absurd (g2.trans h1.symm) (nd.2.2 g.1 (List.mem_map_of_mem g1) h.1 (List.mem_map_of_mem List.mem_cons_self))
    have step : fB (eS H1) (.ofNat h.1, (.ofNat h.2.1, bi h.2.2)) = some (.nx (eS (H1 ++ [h]))) := by
      unfold fB
      obtain ⟨v8, e8, e9⟩ := tBind_some (low_eq t5 (lt32 hn o3))
      dsimp only
      rw [h1, e8, tBind_ok, e9, tBind_ok, iSub1]
      have : tPut iEq (eS H1) (.ofNat t) (lw t h.2.1, bi h.2.2) = some (eS (H1 ++ [h])) := by
        unfold tPut tPutK
        have hl := ok.len
        rw [List.length_append] at hl
        rw [fnd_S (n := n) t fun g hg => ok.pos g (List.mem_append_left _ hg), nf, Option.map_none, bIf_eq, if_pos (by rw [tLenN_eq]; unfold eS; rw [List.length_map]; exact Nat.ble_eq_true_of_le (by omega)), tCat_eq]
        show some (eS H1 ++ _) = _
        unfold eS
        rw [List.map_append]
        show some (_ ++ [_]) = some (_ ++ [(Int.ofNat (h.1 - 1), (lw (h.1 - 1) h.2.1, bi h.2.2))])
        rw [h1]; rfl
      rw [this]; rfl
    have e : H1 ++ h :: H2 = (H1 ++ [h]) ++ H2 := by rw [List.append_assoc]; rfl
    rw [e] at ok ⊢
    rw [← settle hn H2 (H1 ++ [h]) ok]
    exact yF_nx step
theorem Ok0 (n : Nat) : OkH n [] := ⟨fun h hm => (nomatch hm), List.nodup_nil⟩
theorem Sol0 (x : Bs) : Sol [] x := fun h hm => (nomatch hm)
theorem settled {n : Nat} (hn : n ≤ 5) {T : List Bs} {m : Bs} (hT : ∀ t ∈ T, t.length = n) (hm : m.length = T.length) :
    (∃ H, t_settled_places (T.map en) (en m) = some (some (eS H)) ∧ t_parity_left (.ofNat n) (T.map en) = some (iSub (.ofNat n) (.ofNat H.length)) ∧ OkH n H ∧ ∀ x, Sol H x ↔ ans T x = m) ∨
    (t_settled_places (T.map en) (en m) = some none ∧ ∀ x, ans T x ≠ m) := by
  have S : t_settled_places (T.map en) (en m) = tRun (tLet ([] : (List (Int × (Int × Int)))) fun heads_1 => (tLp (yFor fA (tZip (T.map en) (en m)) heads_1) fun s2 => (tLet ([] : (List (Int × ((List Int) × Int)))) fun settled_4 => (tLp (yFor fB s2 settled_4) fun s5 => (some (.rt (some s5))))))) := rfl
  have P : t_parity_left (.ofNat n) (T.map en) = tRun (tLet ([] : (List (Int × Int))) fun heads_1 => (tLp (yFor fP (T.map en) heads_1) fun s2 => (some (.rt (iSub (.ofNat n) (iLen s2)))))) := rfl
  rw [S, P, tLet_ok, tLet_ok]
  rcases steps hn T m (Ok0 n) hT hm with ⟨H, a1, a2, a3, a4⟩ | ⟨a1, a2⟩
  · refine .inl ⟨H, ?_, ?_, a3, fun x => (a4 x).trans ⟨fun q => q.2, fun q => ⟨Sol0 x, q⟩⟩⟩
    · rw [show ([] : (List (Int × (Int × Int)))) = eH [] from rfl, a1, lp_go, tLet_ok, show ([] : (List (Int × ((List Int) × Int)))) = eS [] from rfl, settle hn H [] a3]; rfl
    · rw [show ([] : (List (Int × Int))) = eQ [] from rfl, a2, lp_go, show iLen (eQ H) = .ofNat H.length from by
        rw [iLen_eq]; unfold eQ; rw [List.length_map]; rfl]; rfl
  · refine .inr ⟨?_, fun x => a2 x (Sol0 x)⟩
    rw [show ([] : (List (Int × (Int × Int)))) = eH [] from rfl, a1]; rfl
/-! ### the rows, place by place -/
def okp (H : List Hd) (p : Nat) (x : Bs) : Bool := H.all fun h => !(decide (h.1 ≤ p)) || (dm h.2.1 0 x == h.2.2)
def rws (H : List Hd) (p : Nat) : List Bs := (allr p).filter (okp H p)
theorem okp_iff {H : List Hd} {p : Nat} {x : Bs} : okp H p x = true ↔ ∀ h ∈ H, h.1 ≤ p → dm h.2.1 0 x = h.2.2 := by
  unfold okp
  rw [List.all_eq_true]
  refine forall_congr' fun h => forall_congr' fun _ => ?_
  by_cases c : h.1 ≤ p
  · rw [decide_eq_true c]; exact ⟨fun q _ => eq_of_beq q, fun q => beq_iff_eq.mpr (q c)⟩
  · rw [decide_eq_false c]; exact ⟨fun _ q => absurd q c, fun _ => rfl⟩
theorem grow4 : allB (fun p => decide (allr (p + 1) = (allr p).flatMap fun x => [x ++ [false], x ++ [true]])) 5 = true := by decide +kernel
theorem grow {p : Nat} (hp : p < 5) : allr (p + 1) = (allr p).flatMap fun x => [x ++ [false], x ++ [true]] := of_decide_eq_true (allB_lt grow4 p hp)
theorem okp_app {n : Nat} {H : List Hd} (ok : OkH n H) {p : Nat} {x : Bs} (hx : x.length = p) (y : Bool) : okp H (p + 1) (x ++ [y]) = (okp H p x && match fnd H (p + 1) with | none => true | some h => y == (dm h.2.1 0 x ^^ h.2.2)) := by
  have lo : ∀ h ∈ H, h.1 ≤ p → dm h.2.1 0 (x ++ [y]) = dm h.2.1 0 x := fun h hm hp => by
    rw [dm_app, Nat.zero_add, hx, top_hi (by rw [← (ok.each h hm).1]; exact hp), Bool.false_and, Bool.xor_false]
  have hi : ∀ h ∈ H, h.1 = p + 1 → dm h.2.1 0 (x ++ [y]) = (dm h.2.1 0 x ^^ y) := fun h hm hp => by
    rw [dm_app, Nat.zero_add, hx, top_at (by rw [← (ok.each h hm).1]; exact hp), Bool.true_and]
  have b3 : ∀ a b c : Bool, (a ^^ b) = c ↔ b = (a ^^ c) := by decide
  rw [Bool.eq_iff_iff, Bool.and_eq_true, okp_iff, okp_iff]
  constructor
  · intro q
    refine ⟨fun h hm hp => lo h hm hp ▸ q h hm (by omega), ?_⟩
    cases e : fnd H (p + 1) with
    | none => rfl
    | some g =>
      obtain ⟨g1, g2⟩ := fnd_some e
      have := q g g1 (by omega)
      rw [hi g g1 g2] at this
      exact beq_iff_eq.mpr ((b3 _ _ _).mp this)
  · rintro ⟨q, q2⟩ h hm hp
    by_cases c : h.1 ≤ p
    · rw [lo h hm c]; exact q h hm c
    · have c2 : h.1 = p + 1 := by omega
      have e := fnd_mem ok hm
      rw [c2] at e
      rw [e] at q2
      rw [hi h hm c2]
      exact (b3 _ _ _).mpr (eq_of_beq q2)
theorem flat_if {α β : Type} (c : α → Bool) (g : α → List β) : ∀ l : List α, (l.flatMap fun x => if c x then g x else []) = (l.filter c).flatMap g
  | [] => rfl
  | x :: l => by
    rw [List.flatMap_cons, flat_if c g l, List.filter_cons]
    split
    · rfl
    · rfl
theorem flat_congr {α β : Type} {f g : α → List β} : ∀ {l : List α}, (∀ x ∈ l, f x = g x) → l.flatMap f = l.flatMap g
  | [], _ => rfl
  | x :: l, h => by rw [List.flatMap_cons, List.flatMap_cons, h x List.mem_cons_self, flat_congr fun y hy => h y (List.mem_cons_of_mem _ hy)]
theorem rws_free {n : Nat} {H : List Hd} (ok : OkH n H) {p : Nat} (hp : p < 5) (e : fnd H (p + 1) = none) : rws H (p + 1) = (rws H p).flatMap fun x => [x ++ [false], x ++ [true]] := by
  unfold rws
  rw [grow hp, List.filter_flatMap, ← flat_if]
  refine flat_congr fun x hx => ?_
  have hl := mem_allr.mp hx
  have a := okp_app ok hl false
  have b := okp_app ok hl true
  rw [e] at a b
  dsimp only at a b
  rw [Bool.and_true] at a b
  rw [List.filter_cons, List.filter_cons, List.filter_nil, a, b]
  cases okp H p x <;> rfl
theorem rws_set {n : Nat} {H : List Hd} (ok : OkH n H) {p : Nat} (hp : p < 5) {h : Hd} (e : fnd H (p + 1) = some h) : rws H (p + 1) = (rws H p).map fun x => x ++ [dm h.2.1 0 x ^^ h.2.2] := by
  rw [List.map_eq_flatMap]
  unfold rws
  rw [grow hp, List.filter_flatMap, ← flat_if]
  refine flat_congr fun x hx => ?_
  have hl := mem_allr.mp hx
  have a := okp_app ok hl false
  have b := okp_app ok hl true
  rw [e] at a b
  dsimp only at a b
  rw [List.filter_cons, List.filter_cons, List.filter_nil, a, b]
  cases okp H p x <;> cases dm h.2.1 0 x <;> cases h.2.2 <;> rfl
theorem two_len {α : Type} (g g2 : α → α) : ∀ l : List α, (l.flatMap fun x => [g x, g2 x]).length = 2 * l.length
  | [] => rfl
  | x :: l => by
    rw [List.flatMap_cons, List.length_append, two_len g g2 l, List.length_cons]
    show 2 + 2 * l.length = 2 * (l.length + 1)
    omega
theorem rws_len {n : Nat} {H : List Hd} (ok : OkH n H) : ∀ {p : Nat}, p ≤ 5 → (rws H p).length * 2 ^ cnt H p = 2 ^ p
  | 0, _ => by
    have : okp H 0 [] = true := okp_iff.mpr fun h hm q => absurd (Nat.le_zero.mp q) (ok.pos h hm)
    rw [cnt_zero ok]
    unfold rws allr
    rw [List.filter_cons, this]; rfl
  | p + 1, hp => by
    have ih := rws_len ok (p := p) (by omega)
    rw [cnt_succ ok]
    cases e : fnd H (p + 1) with
    | none =>
      rw [rws_free ok (by omega) e, two_len, if_neg (by decide), Nat.add_zero, Nat.pow_succ, ← ih]
      rw [Nat.mul_comm 2, Nat.mul_assoc, Nat.mul_comm 2, Nat.mul_assoc]
    | some h =>
      rw [rws_set ok (by omega) e, List.length_map, if_pos (show (some h).isSome = true from rfl), Nat.pow_succ, Nat.pow_succ, ← ih, Nat.mul_assoc]
theorem allr_len : ∀ n, (allr n).length = 2 ^ n
  | 0 => rfl
  | n + 1 => by
    unfold allr
    rw [List.length_append, List.length_map, List.length_map, allr_len n, Nat.pow_succ]; omega
theorem rws_le (H : List Hd) {p : Nat} (hp : p ≤ 5) : (rws H p).length ≤ 32 := Nat.le_trans (List.length_filter_le _ _) (by rw [allr_len]; exact (show 2 ^ p ≤ 2 ^ 5 from Nat.pow_le_pow_right (by decide) hp))
theorem rws_all {n : Nat} {H : List Hd} (ok : OkH n H) {T : List Bs} {m : Bs} (h : ∀ x, Sol H x ↔ ans T x = m) : rws H n = (allr n).filter fun x => ans T x == m := by
  unfold rws
  refine List.filter_congr fun x _ => ?_
  rw [Bool.eq_iff_iff, okp_iff, beq_iff_eq, ← h]
  exact ⟨fun q g hg => q g hg (by rw [(ok.each g hg).1]; exact top_le (ok.each g hg).2.2), fun q g hg _ => q g hg⟩
/-! the loop -/
noncomputable def fS (l : List Int) (b : Int) (x13 : List Int) : Option (List Int) := (tBind (tBind (tAllO (fun x14 => (tIx x13 x14)) l) tLim) fun v16 => (tLim (tCat x13 [(iMod (iAdd (tSum v16) b) (Int.ofNat 2))])))
noncomputable def fF (x20 : List Int) : Option (List (List Int)) := tBind (some [(Int.ofNat 0), (Int.ofNat 1)]) fun zs => tFilO (fun y21 => (some true)) (fun y21 => (tLim (tCat x20 [y21]))) zs
noncomputable def fC (o : Option (List (Int × (List Int × Int)))) (s7 : (List (List Int))) (x8 : Int) : Option (Res (List (List Int)) (List (List Int)) (List (List Int))) :=
  (tBind o fun v9 =>
  (bIf (tSome (tFnd iEq v9 x8))
  (tBind o fun v10 =>
  (tBind (tFnd iEq v10 x8) fun v11 =>
  (tLet v11 fun p12 =>
  (tBind (tBind (tAllO (fS p12.1 p12.2) s7) tLim) fun v18 =>
  (tLet v18 fun rows_19 =>
  (some (.nx rows_19)))))))
  (tBind (tBind (tFlat (fun x20 => (some true)) fF s7) tLim) fun v23 =>
  (tLet v23 fun rows_24 =>
  (some (.nx rows_24))))))
theorem set5 : allB (fun t => allB (fun m => allL (fun x => sameL (fS (lw t m) (bi false) (en x)) (en (x ++ [dm m 0 x ^^ false])) && sameL (fS (lw t m) (bi true) (en x)) (en (x ++ [dm m 0 x ^^ true]))) (allr t)) 32) 5 = true := by decide +kernel
theorem set_eq {t m : Nat} (ht : t < 5) (hm : m < 32) {x : Bs} (hx : x.length = t) (b : Bool) : fS (lw t m) (bi b) (en x) = some (en (x ++ [dm m 0 x ^^ b])) := by
  have := Bool.and_eq_true_iff.mp (allL_mem (allB_lt (allB_lt set5 t ht) m hm) x (mem_allr.mpr hx))
  cases b
  · exact sameL_eq this.1
  · exact sameL_eq this.2
theorem tAllO_en {α β γ : Type} {f : β → Option γ} {e : α → β} {g : α → γ} : ∀ {xs : List α}, (∀ x ∈ xs, f (e x) = some (g x)) → tAllO f (xs.map e) = some (xs.map g)
  | [], _ => rfl
  | x :: xs, h => by
    show tBind (f (e x)) (fun y => tBind (tAllO f (xs.map e)) fun ys => some (y :: ys)) = _
    rw [h x List.mem_cons_self, tBind_ok, tAllO_en fun y hy => h y (List.mem_cons_of_mem _ hy)]; rfl
theorem tFlat_en {α β γ : Type} {f : β → Option (List γ)} {e : α → β} {g : α → List γ} : ∀ {xs : List α}, (∀ x ∈ xs, f (e x) = some (g x)) → tFlat (fun _ => some true) f (xs.map e) = some (xs.flatMap g)
  | [], _ => rfl
  | x :: xs, h => by
    show tBind (f (e x)) (fun y => tBind (tFlat (fun _ => some true) f (xs.map e)) fun ys => some (y ++ ys)) = _
    rw [h x List.mem_cons_self, tBind_ok, tFlat_en fun y hy => h y (List.mem_cons_of_mem _ hy)]; rfl
theorem fF_eq {x : Bs} (hx : x.length ≤ 5) : fF (en x) = some [en (x ++ [false]), en (x ++ [true])] := by
  have A : ∀ b, tLim (tCat (en x) [bi b]) = some (en (x ++ [b])) := fun b => by
    have : tCat (en x) [bi b] = en (x ++ [b]) := by rw [tCat_eq]; unfold en; rw [List.map_append]; rfl
    rw [this]
    exact tLim_ok (by unfold en; rw [List.length_map, List.length_append]; show x.length + 1 ≤ _; omega)
  show tBind (tLim (tCat (en x) [bi false])) (fun y => tBind (tBind (tLim (tCat (en x) [bi true])) fun y => tBind (some []) fun ys => some (y :: ys)) fun ys => some (y :: ys)) = _
  rw [A, A]; rfl
theorem place {n : Nat} (hn : n ≤ 5) {H : List Hd} (ok : OkH n H) {p : Nat} (hp : p < n) : fC (some (eS H)) ((rws H p).map en) (.ofNat p) = some (.nx ((rws H (p + 1)).map en)) := by
  unfold fC
  have lim : ∀ q, q ≤ n → tLim ((rws H q).map en) = some ((rws H q).map en) := fun q hq => tLim_ok (by rw [List.length_map]; have := rws_le H (p := q) (by omega); omega)
  have L2 := lim (p + 1) hp
  rw [tBind_ok, fnd_S (n := n) p ok.pos]
  cases e : fnd H (p + 1) with
  | none =>
    show tBind (tBind (tFlat (fun x20 => (some true)) fF ((rws H p).map en)) tLim) _ = _
    rw [tFlat_en (g := fun x => [en (x ++ [false]), en (x ++ [true])]) fun x hx => fF_eq (by have := mem_allr.mp (List.mem_filter.mp hx).1; omega), tBind_ok]
    rw [rws_free ok (by omega) e, List.map_flatMap] at L2 ⊢
    have L3 : tLim ((rws H p).flatMap fun x => [en (x ++ [false]), en (x ++ [true])]) = some ((rws H p).flatMap fun x => [en (x ++ [false]), en (x ++ [true])]) := L2
    rw [L3]; rfl
  | some h =>
    obtain ⟨h1, h2⟩ := fnd_some e
    rw [show tSome (Option.map (fun h => (lw (h.1 - 1) h.2.1, bi h.2.2)) (some h)) = true from rfl, bIf_t]
    rw [tBind_ok, fnd_S (n := n) p ok.pos, e, Option.map_some, tBind_ok, tLet_ok]
    dsimp only
    rw [h2, Nat.add_sub_cancel, tAllO_en (xs := rws H p) (e := en) (f := fS (lw p h.2.1) (bi h.2.2)) (g := fun x => en (x ++ [dm h.2.1 0 x ^^ h.2.2])) fun x hx => set_eq (t := p) (by omega) (lt32 hn (ok.each h h1).2.2) (mem_allr.mp (List.mem_filter.mp hx).1) h.2.2, tBind_ok]
    rw [rws_set ok (by omega) e, List.map_map] at L2 ⊢
    have L3 : tLim ((rws H p).map fun x => en (x ++ [dm h.2.1 0 x ^^ h.2.2])) = some ((rws H p).map fun x => en (x ++ [dm h.2.1 0 x ^^ h.2.2])) := L2
    rw [L3]; rfl
theorem places {n : Nat} (hn : n ≤ 5) {H : List Hd} (ok : OkH n H) : ∀ (k p : Nat), p + k = n → yFor (fC (some (eS H))) (tUpN (.ofNat p) k) ((rws H p).map en) = some (.go ((rws H n).map en))
  | 0, p, h => by have h : p = n := by omega
                  rw [h]; rfl
  | k + 1, p, h => by
    show yFor (fC (some (eS H))) (.ofNat p :: tUpN (.ofNat (p + 1)) k) _ = _
    rw [yF_nx (place hn ok (by omega))]
    exact places hn ok k (p + 1) (by omega)
theorem coset {n : Nat} (hn : n ≤ 5) {T : List Bs} {m : Bs} (hT : ∀ t ∈ T, t.length = n) (hm : m.length = T.length) (h0 : T ≠ []) :
    t_coset_words (T.map en) (en m) = some (((allr n).filter fun x => ans T x == m).map en) := by
  have C : t_coset_words (T.map en) (en m) = tRun (tBind (t_settled_places (T.map en) (en m)) fun v1 => (tLet v1 fun settled_2 => (bIf (oIsN settled_2) (some (.rt ([] : (List (List Int))))) (tLet [([] : (List Int))] fun rows_3 =>
    (tBind (bIf (bNot (tEmp (T.map en))) (tBind (tIx (T.map en) (Int.ofNat 0)) fun v4 => (some (iLen v4))) (some (Int.ofNat 0))) fun v5 => (tBind (tRng (Int.ofNat 0) v5) fun v6 => (tLp (yFor (fC settled_2) v6 rows_3) fun s7 => (some (.rt s7))))))))) := rfl
  rw [C]
  rcases settled hn hT hm with ⟨H, a1, _, ok, a4⟩ | ⟨a1, a2⟩
  · have e0 : [([] : (List Int))] = (rws H 0).map en := by
      have : okp H 0 [] = true := okp_iff.mpr fun h hm q => absurd (Nat.le_zero.mp q) (ok.pos h hm)
      unfold rws allr
      rw [List.filter_cons, this]; rfl
    have e5 : (bIf (bNot (tEmp (T.map en))) (tBind (tIx (T.map en) (Int.ofNat 0)) fun v4 => (some (iLen v4))) (some (Int.ofNat 0))) = some (.ofNat n) := by
      cases T with
      | nil => exact absurd rfl h0
      | cons t T =>
        show some (iLen (en t)) = _
        rw [iLen_eq]; unfold en; rw [List.length_map, hT t List.mem_cons_self]; rfl
    rw [a1, tBind_ok, tLet_ok, e5]
    show tRun (tBind (tRng (Int.ofNat 0) (.ofNat n)) fun v6 => (tLp (yFor (fC (some (eS H))) v6 [[]]) fun s7 => (some (.rt s7)))) = _
    rw [show tRng (Int.ofNat 0) (Int.ofNat n) = some (tUpN (.ofNat 0) n) from tRng_n (n := n) (by omega), tBind_ok, e0, places hn ok n 0 (by omega), rws_all ok a4]; rfl
  · rw [a1, tBind_ok, tLet_ok]
    have : (allr n).filter (fun x => ans T x == m) = [] := List.filter_eq_nil_iff.mpr fun x _ q => a2 x (eq_of_beq q)
    rw [this]; rfl
theorem parity {n : Nat} (hn : n ≤ 5) {T : List Bs} (hT : ∀ t ∈ T, t.length = n) : ∃ h, t_parity_left (.ofNat n) (T.map en) = some (iSub (.ofNat n) (.ofNat h)) ∧ h ≤ n ∧ (Ker n T).length * 2 ^ h = 2 ^ n := by
  rcases settled hn hT (zr_len T.length) with ⟨H, _, a2, ok, a4⟩ | ⟨_, a2⟩
  · refine ⟨H.length, a2, ok.len, ?_⟩
    have e := rws_len ok hn
    rw [cnt_all ok, rws_all ok a4] at e
    exact e
  · exact absurd (eq_of_beq (zr_inK (n := n) (T := T))) (a2 (zr n))
end K74

set_option Elab.async false
set_option linter.all false
set_option maxRecDepth 100000
set_option maxHeartbeats 4000000
set_option autoImplicit false
namespace K74
open PySem PySem.Spec PyProof.Rows L2 SK
/-! ### small defs, told for all rows of up to five bits -/
noncomputable def sameI (o : Option Int) (l : Int) : Bool := Option.rec (motive := fun _ => Bool) false (fun v => iEq v l) o
theorem sameI_eq {o : Option Int} {l : Int} (h : sameI o l = true) : o = some l := by
  cases o with
  | none => cases h
  | some v => have h : iEq v l = true := h; rw [iEq_eq, decide_eq_true_eq] at h; rw [h]
noncomputable def sameR (o : Option (List (List Int))) (l : List (List Int)) : Bool := Option.rec (motive := fun _ => Bool) false (fun v => lEq (lEq iEq) v l) o
theorem lEqR_eq : ∀ a b : List (List Int), lEq (lEq iEq) a b = decide (a = b)
  | [], [] => rfl
  | [], _ :: _ => rfl
  | _ :: _, [] => rfl
  | x :: xs, y :: ys => by
    show bAnd (lEq iEq x y) (lEq (lEq iEq) xs ys) = _
    rw [lEqR_eq xs ys, lEqI_eq, bAnd_eq]
    by_cases h : x = y <;> by_cases h2 : xs = ys <;> simp [h, h2]
theorem sameR_eq {o : Option (List (List Int))} {l : List (List Int)} (h : sameR o l = true) : o = some l := by
  cases o with
  | none => cases h
  | some v => have h : lEq (lEq iEq) v l = true := h; rw [lEqR_eq, decide_eq_true_eq] at h; rw [h]
theorem f_pair : allB (fun n => allL (fun x => allL (fun y => sameI (t__law_even (en x) (en y)) (bi (dot x y)) && sameI (t_parity_of (en x) (en y)) (bi (dot x y)) && sameL (t__law_sum (en x) (en y)) (en (xr x y))) (allr n)) (allr n)) 6 = true := by decide +kernel
section
variable {n : Nat} (hn : n ≤ 5) {x y : Bs} (hx : x.length = n) (hy : y.length = n)
include hn hx hy
theorem pair_all : (sameI (t__law_even (en x) (en y)) (bi (dot x y)) && sameI (t_parity_of (en x) (en y)) (bi (dot x y)) && sameL (t__law_sum (en x) (en y)) (en (xr x y))) = true := allL_mem (allL_mem (allB_lt f_pair n (by omega)) x (mem_allr.mpr hx)) y (mem_allr.mpr hy)
theorem even_eq : t__law_even (en x) (en y) = some (bi (dot x y)) := sameI_eq (Bool.and_eq_true_iff.mp (Bool.and_eq_true_iff.mp (pair_all hn hx hy)).1).1
theorem par_eq : t_parity_of (en x) (en y) = some (bi (dot x y)) := sameI_eq (Bool.and_eq_true_iff.mp (Bool.and_eq_true_iff.mp (pair_all hn hx hy)).1).2
theorem sum_eq : t__law_sum (en x) (en y) = some (en (xr x y)) := sameL_eq (Bool.and_eq_true_iff.mp (pair_all hn hx hy)).2
end
theorem f_bits : allB (fun n => sameR (t__law_bits (.ofNat n)) ((allr n).map en)) 6 = true := by decide +kernel
theorem bits_eq {n : Nat} (hn : n ≤ 5) : t__law_bits (.ofNat n) = some ((allr n).map en) := sameR_eq (allB_lt f_bits n (by omega))
noncomputable def incr : List Int → Bool
  | [] => true
  | x :: xs => xs.all (fun y => iLt x y) && incr xs
theorem incr_up : ∀ {l : List Int}, incr l = true → l.Pairwise (· < ·)
  | [], _ => .nil
  | x :: xs, h => by
    have h := Bool.and_eq_true_iff.mp (show (xs.all (fun y => iLt x y) && incr xs) = true from h)
    refine .cons (fun y hy => ?_) (incr_up h.2)
    have := List.all_eq_true.mp h.1 y hy
    rw [iLt_eq, decide_eq_true_eq] at this; exact this
theorem f_up : allB (fun n => incr ((allr n).map fun x => TS.code 1000 (en x))) 6 = true := by decide +kernel
theorem f_srt : allB (fun n => decide ((allr n).Pairwise fun x y => lexT (en y) (en x) = false)) 6 = true := by decide +kernel
theorem en_len (x : Bs) : (en x).length = x.length := List.length_map _
theorem en_inj : ∀ {x y : Bs}, en x = en y → x = y
  | [], [], _ => rfl
  | [], _ :: _, h => by cases h
  | _ :: _, [], h => by cases h
  | a :: x, b :: y, h => by
    have h : bi a :: en x = bi b :: en y := h
    obtain ⟨h1, h2⟩ := List.cons.inj h
    rw [en_inj h2]
    cases a <;> cases b <;> first | rfl | cases h1
theorem en_bd : ∀ x : Bs, TS.Bd 1000 (en x) := fun x => by
  have : okRow x.length (en x) = true := by
    unfold okRow
    rw [en_len, decide_eq_true rfl, Bool.true_and, List.all_eq_true]
    intro m hm
    obtain ⟨b, _, rfl⟩ := List.mem_map.mp hm
    cases b <;> decide
  exact (okRow_ok this).bd
theorem en_ok {n : Nat} {x : Bs} (h : x.length = n) : RowOk n (en x) := ⟨(en_len x).trans h, en_bd x⟩
/-- sorted(set(rows)) -/
theorem set_rows {n : Nat} (h1 : 1 ≤ n) (hn : n ≤ 5) {L : List Bs} (hL : ∀ x ∈ L, x.length = n) (hl : L.length < 64) {p : Bs → Bool} (hp : ∀ x, x.length = n → (p x = true ↔ x ∈ L)) :
    tSetT (L.map en) = some (((allr n).filter p).map en) := by
  have okL : ∀ x ∈ L.map en, RowOk n x := fun x hx => by
    obtain ⟨y, hy, rfl⟩ := List.mem_map.mp hx; exact en_ok (hL y hy)
  have okF : ∀ x ∈ ((allr n).filter p).map en, RowOk n x := fun x hx => by
    obtain ⟨y, hy, rfl⟩ := List.mem_map.mp hx; exact en_ok (mem_allr.mp (List.mem_filter.mp hy).1)
  have up2 : ((((allr n).filter p).map en).map (TS.code 1000)).Pairwise (· < ·) := by
    have := incr_up (allB_lt f_up n (by omega))
    rw [List.map_map]
    rw [List.pairwise_map] at this ⊢
    exact this.filter p
  have e : tSetR (L.map en) = ((allr n).filter p).map en := by
    rw [tSetR_eq]
    refine rows_eq (fun x hx => okL x ((setR_mem x _).mp hx)) okF (up_eq (setR_up okL) up2 fun k => ?_)
    have m : ∀ z, z ∈ setR (L.map en) ↔ z ∈ ((allr n).filter p).map en := fun z => by
      rw [setR_mem]
      constructor
      · intro hz
        obtain ⟨y, hy, rfl⟩ := List.mem_map.mp hz
        exact List.mem_map_of_mem (List.mem_filter.mpr ⟨mem_allr.mpr (hL y hy), (hp y (hL y hy)).mpr hy⟩)
      · intro hz
        obtain ⟨y, hy, rfl⟩ := List.mem_map.mp hz
        have := List.mem_filter.mp hy
        exact List.mem_map_of_mem ((hp y (mem_allr.mp this.1)).mp this.2)
    constructor
    · intro hk; obtain ⟨z, hz, rfl⟩ := List.mem_map.mp hk; exact List.mem_map_of_mem ((m z).mp hz)
    · intro hk; obtain ⟨z, hz, rfl⟩ := List.mem_map.mp hk; exact List.mem_map_of_mem ((m z).mpr hz)
  unfold tSetT
  rw [bIf_eq, if_pos, e]
  rw [bAnd_eq, bAnd_eq, tAllR_eq, tHdLen_eq, tLenN_eq, Bool.and_eq_true, Bool.and_eq_true]
  refine ⟨⟨?_, ?_⟩, Nat.ble_eq_true_of_le (by rw [List.length_map]; exact hl)⟩
  · cases L with
    | nil => rfl
    | cons x L => show Nat.ble 1 (en x).length = true; rw [en_len, hL x List.mem_cons_self]; exact Nat.ble_eq_true_of_le h1
  · cases L with
    | nil => rfl
    | cons x L =>
      rw [List.all_eq_true]
      intro z hz
      obtain ⟨y, hy, rfl⟩ := List.mem_map.mp hz
      show okRow (en x).length (en y) = true
      have e2 : (en x).length = y.length := by rw [en_len, hL x List.mem_cons_self, hL y hy]
      rw [e2]
      unfold okRow
      rw [en_len, decide_eq_true rfl, Bool.true_and, List.all_eq_true]
      intro m hm
      obtain ⟨b, _, rfl⟩ := List.mem_map.mp hm
      cases b <;> decide
theorem ins_id {α : Type} (k : α → List Int) (x : α) : ∀ {ys : List α}, (∀ y ∈ ys, lexT (k y) (k x) = false) → tInsK k x ys = x :: ys
  | [], _ => rfl
  | y :: ys, h => by
    show bIf (lexT (k y) (k x)) _ (x :: y :: ys) = _
    rw [h y List.mem_cons_self]; rfl
theorem sort_id {α : Type} (k : α → List Int) : ∀ {xs : List α}, xs.Pairwise (fun x y => lexT (k y) (k x) = false) → tSortK k xs = xs
  | [], _ => rfl
  | x :: xs, h => by
    cases h with
    | cons h1 h2 =>
      show tInsK k x (tSortK k xs) = _
      rw [sort_id k h2, ins_id k x h1]
theorem all3_eq : ∀ xs : List (List Int), (∀ x ∈ xs, 3 ≤ x.length) → tAll3 xs = true
  | [], _ => rfl
  | x :: xs, h => by
    show bAnd _ (tAll3 xs) = true
    rw [all3_eq xs fun y hy => h y (List.mem_cons_of_mem _ hy), bAnd_eq, Bool.and_true]
    exact Nat.ble_eq_true_of_le (by rw [tLenN_eq]; exact h x List.mem_cons_self)
theorem all2_eq : ∀ xs : List (List Int), (∀ x ∈ xs, x.length = 2) → tAll2 xs = true
  | [], _ => rfl
  | x :: xs, h => by
    show bAnd (Nat.beq 2 (tLenN x)) (tAll2 xs) = true
    rw [all2_eq xs fun y hy => h y (List.mem_cons_of_mem _ hy), tLenN_eq, h x List.mem_cons_self]; rfl
theorem allr_nd : ∀ n, (allr n).Nodup
  | 0 => List.nodup_cons.mpr ⟨List.not_mem_nil, List.nodup_nil⟩
  | n + 1 => by
    have M : ∀ b : Bool, ((allr n).map (b :: ·)).Nodup := fun b => List.Pairwise.map _ (fun a c q w => q (List.cons.inj w).2) (allr_nd n)
    unfold allr
    rw [List.nodup_append]
    refine ⟨M false, M true, fun a ha c hc q => ?_⟩
    obtain ⟨_, _, rfl⟩ := List.mem_map.mp ha
    obtain ⟨_, _, rfl⟩ := List.mem_map.mp hc
    cases (List.cons.inj q).1
/-- sorted(rows) -/
theorem sort_rows {n : Nat} (h1 : 2 ≤ n) (hn : n ≤ 5) {L : List Bs} {p : Bs → Bool} (hp : L.Perm ((allr n).filter p)) : tSortT2 (L.map en) = some (((allr n).filter p).map en) := by
  have hL : ∀ x ∈ L.map en, x.length = n := fun x hx => by
    obtain ⟨y, hy, rfl⟩ := List.mem_map.mp hx
    rw [en_len]; exact mem_allr.mp (List.mem_filter.mp (hp.mem_iff.mp hy)).1
  unfold tSortT2
  rw [bIf_eq, if_pos]
  · rw [tSortK_same (fun a b h => h) (hp.map en), sort_id]
    rw [List.pairwise_map]
    exact (of_decide_eq_true (allB_lt f_srt n (by omega)) : (allr n).Pairwise fun x y => lexT (en y) (en x) = false).filter p
  · rw [bOr_eq, Bool.or_eq_true]
    by_cases c : n = 2
    · exact .inr (all2_eq _ fun x hx => (hL x hx).trans c)
    · exact .inl (all3_eq _ fun x hx => by have := hL x hx; omega)
theorem ok1 {α : Type} {ok : α → Bool} : ∀ {xs : List α}, (∀ x ∈ xs, ok x = true) → (List.rec (motive := fun _ => Bool) true (fun y _ ih => bAnd (ok y) ih) xs : Bool) = true
  | [], _ => rfl
  | x :: xs, h => by
    show bAnd (ok x) _ = true
    rw [h x List.mem_cons_self, ok1 fun y hy => h y (List.mem_cons_of_mem _ hy)]; rfl
theorem okL1_eq {α : Type} {xs : List α} (h : xs.length ≤ 1000000) : okL1 xs = true := by unfold okL1; rw [tLenN_eq]; exact Nat.ble_eq_true_of_le h
theorem like_rows {L L' : List Bs} (hL : L'.length ≤ 1000000) (h : ∀ x ∈ L', x.length ≤ 5) : tLike (lEq (lEq iEq)) (okT okL1) (L.map en) (L'.map en) = some (decide (L = L')) := by
  unfold tLike okT
  rw [bIf_eq, if_pos, lEqR_eq]
  · congr 1
    by_cases c : L = L'
    · rw [c]; simp
    · rw [decide_eq_false c, decide_eq_false fun q => c (map_inj (fun a b => en_inj) q)]
  · rw [bAnd_eq, Bool.and_eq_true]
    refine ⟨Nat.ble_eq_true_of_le (by rw [tLenN_eq, List.length_map]; exact hL), ok1 fun x hx => ?_⟩
    obtain ⟨y, hy, rfl⟩ := List.mem_map.mp hx
    exact okL1_eq (by rw [en_len]; have := h y hy; omega)
theorem like_row {x y : Bs} (h : y.length ≤ 1000000) : tLike (lEq iEq) okL1 (en x) (en y) = some (decide (x = y)) := by
  unfold tLike
  rw [bIf_eq, if_pos (okL1_eq (by rw [en_len]; exact h)), lEqI_eq]
  congr 1
  by_cases c : x = y
  · rw [c]; simp
  · rw [decide_eq_false c, decide_eq_false fun q => c (en_inj q)]
theorem tFilO_en {α β : Type} {c : β → Option Bool} {e : α → β} {p : α → Bool} : ∀ {xs : List α}, (∀ x ∈ xs, c (e x) = some (p x)) → tFilO c (fun x => some x) (xs.map e) = some ((xs.filter p).map e)
  | [], _ => rfl
  | x :: xs, h => by
    show tBind (c (e x)) (fun b => bIf b (tBind (some (e x)) fun y => tBind (tFilO c (fun x => some x) (xs.map e)) fun ys => some (y :: ys)) (tFilO c (fun x => some x) (xs.map e))) = _
    rw [h x List.mem_cons_self, tBind_ok, tFilO_en fun y hy => h y (List.mem_cons_of_mem _ hy), List.filter_cons]
    cases p x <;> rfl
theorem ans_len (T : List Bs) (x : Bs) : (ans T x).length = T.length := List.length_map _
theorem squeezed {n : Nat} (hn : n ≤ 5) {T : List Bs} (hT : ∀ t ∈ T, t.length = n) (hl : T.length ≤ 64) {x : Bs} (hx : x.length = n) : t_squeezed (T.map en) (en x) = some (en (ans T x)) := by
  unfold t_squeezed
  rw [tAllO_en (xs := T) (e := en) (f := fun x1 => t_parity_of x1 (en x)) (g := fun t => bi (dot t x)) fun t ht => par_eq hn (hT t ht) hx, tBind_ok, tLim_ok (by rw [List.length_map]; omega)]
  show some (T.map fun t => bi (dot t x)) = _
  unfold en ans
  rw [List.map_map]; rfl
/-! ### all sums -/
theorem tIx_en {b : Bs} {j : Nat} (h : j < b.length) : tIx (en b) (.ofNat j) = some (bi b[j]) := by
  rw [show (Int.ofNat j) = (j : Int) from rfl, tIx_get (by rw [en_len]; exact h)]
  unfold en
  rw [List.getElem_map]
theorem tIx_rows {T : List Bs} {j : Nat} (h : j < T.length) : tIx (T.map en) (.ofNat j) = some (en T[j]) := by
  rw [show (Int.ofNat j) = (j : Int) from rfl, tIx_get (by rw [List.length_map]; exact h), List.getElem_map]
noncomputable def fM (tab : List (List Int)) (x4 : List Int) (s8 : (List Int)) (x9 : Int) : Option (Res (List Int) (List Int) (List ((List Int) × (List Int)))) :=
  (tBind (tIx x4 x9) fun v11 =>
  (bIf (iEq v11 (Int.ofNat 1))
  (tBind (tIx tab x9) fun v12 =>
  (tBind (t__law_sum s8 v12) fun v13 =>
  (tLet v13 fun row_14 =>
  (some (.nx row_14)))))
  (some (.nx s8))))
theorem spl_at : ∀ {T : List Bs} {b : Bs} {p : Nat} (acc : Bs) (h1 : p < T.length) (h2 : p < b.length), spl acc (T.drop p) (b.drop p) = spl (if b[p] then xr acc T[p] else acc) (T.drop (p + 1)) (b.drop (p + 1)) := fun acc h1 h2 => by
  rw [List.drop_eq_getElem_cons h1, List.drop_eq_getElem_cons h2]; rfl
theorem made1 {n : Nat} (hn : n ≤ 5) {T : List Bs} (hT : ∀ t ∈ T, t.length = n) {b : Bs} (hb : b.length = T.length) : ∀ (k p : Nat) (acc : Bs), acc.length = n → p + k = T.length →
    yFor (fM (T.map en) (en b)) (tUpN (.ofNat p) k) (en acc) = some (.go (en (spl acc (T.drop p) (b.drop p))))
  | 0, p, acc, ha, h => by
    rw [List.drop_eq_nil_of_le (by omega), show spl acc [] (b.drop p) = acc from by cases b.drop p <;> rfl]
    rfl
  | k + 1, p, acc, ha, h => by
    have h1 : p < T.length := by omega
    have h2 : p < b.length := by omega
    have ht : (T[p]).length = n := hT _ (List.getElem_mem h1)
    show yFor (fM (T.map en) (en b)) (.ofNat p :: tUpN (.ofNat (p + 1)) k) _ = _
    have st : fM (T.map en) (en b) (en acc) (.ofNat p) = some (.nx (en (if b[p] then xr acc T[p] else acc))) := by
      unfold fM
      rw [tIx_en h2, tBind_ok]
      cases b[p]
      · rfl
      · show tBind (tIx (T.map en) (.ofNat p)) _ = _
        rw [tIx_rows h1, tBind_ok, sum_eq hn ha ht]; rfl
    rw [yF_nx st, spl_at acc h1 h2]
    refine made1 hn hT hb k (p + 1) _ ?_ (by omega)
    split
    · exact xr_len ha ht
    · exact ha
def mades (n : Nat) (T : List Bs) : List (Bs × Bs) := (allr T.length).map fun b => (b, spl (zr n) T b)
def en2 (p : Bs × Bs) : List Int × List Int := (en p.1, en p.2)
noncomputable def fM2 (tab : List (List Int)) (n : Int) (s3 : (List ((List Int) × (List Int)))) (x4 : (List Int)) : Option (Res (List ((List Int) × (List Int))) (List ((List Int) × (List Int))) (List ((List Int) × (List Int)))) :=
  (tBind (yRep [(Int.ofNat 0)] n) fun v5 =>
  (tLet v5 fun row_6 =>
  (tBind (tRng (Int.ofNat 0) (iLen tab)) fun v7 =>
  (tLp (yFor (fM tab x4) v7 row_6) fun s8 =>
  (tBind (tApp s3 (x4, s8)) fun pairs_10 =>
  (some (.nx pairs_10)))))))
theorem f_rep : allB (fun n => sameL (yRep [(Int.ofNat 0)] (.ofNat n)) (en (zr n))) 6 = true := by decide +kernel
theorem rep_eq {n : Nat} (hn : n ≤ 5) : yRep [(Int.ofNat 0)] (.ofNat n) = some (en (zr n)) := sameL_eq (allB_lt f_rep n (by omega))
theorem iLen_map {α β : Type} (f : α → β) (xs : List α) : iLen (xs.map f) = .ofNat xs.length := by rw [iLen_eq, List.length_map]; rfl
theorem tRng0 {n : Nat} (h : n ≤ 1000) : tRng (Int.ofNat 0) (Int.ofNat n) = some (tUpN (.ofNat 0) n) := tRng_n (n := n) (by omega)
theorem made2 {n : Nat} (hn : n ≤ 5) {T : List Bs} (hT : ∀ t ∈ T, t.length = n) (hl : T.length ≤ 5) : ∀ (L : List Bs) (acc : List (Bs × Bs)), (∀ b ∈ L, b.length = T.length) → acc.length + L.length ≤ 32 →
    yFor (fM2 (T.map en) (.ofNat n)) (L.map en) (acc.map en2) = some (.go ((acc ++ L.map fun b => (b, spl (zr n) T b)).map en2))
  | [], acc, _, _ => by rw [List.map_nil, List.map_nil, List.append_nil]; rfl
  | b :: L, acc, hb, ha => by
    have h1 := hb b List.mem_cons_self
    have st : fM2 (T.map en) (.ofNat n) (acc.map en2) (en b) = some (.nx ((acc ++ [(b, spl (zr n) T b)]).map en2)) := by
      unfold fM2
      have hh : acc.length < 16777216 := by omega
      rw [rep_eq hn, tBind_ok, tLet_ok, iLen_map, tRng0 (by omega), tBind_ok, made1 hn hT h1 T.length 0 (zr n) (zr_len n) (by omega), lp_go, List.drop_zero, List.drop_zero, tApp_ok (by rw [List.length_map]; exact hh), tBind_ok, List.map_append]; rfl
    rw [List.map_cons, yF_nx st, made2 hn hT hl L _ (fun c hc => hb c (List.mem_cons_of_mem _ hc)) (by rw [List.length_append]; rw [List.length_cons] at ha; show acc.length + 1 + L.length ≤ 32; omega)]
    rw [List.append_assoc]; rfl
theorem made {n : Nat} (hn : n ≤ 5) {T : List Bs} (hT : ∀ t ∈ T, t.length = n) (hl : T.length ≤ 5) : t__law_made (T.map en) (.ofNat n) = some ((mades n T).map en2) := by
  have M : t__law_made (T.map en) (.ofNat n) = tRun (tLet ([] : (List ((List Int) × (List Int)))) fun pairs_1 => (tBind (t__law_bits (iLen (T.map en))) fun v2 => (tLp (yFor (fM2 (T.map en) (.ofNat n)) v2 pairs_1) fun s3 => (some (.rt s3))))) := rfl
  rw [M, tLet_ok, iLen_map, bits_eq hl, tBind_ok, show ([] : (List ((List Int) × (List Int)))) = (([] : List (Bs × Bs)).map en2) from rfl, made2 hn hT hl _ [] (fun b hb => mem_allr.mp hb) (by rw [allr_len]; show 0 + _ ≤ _; rw [Nat.zero_add]; exact (show 2 ^ T.length ≤ 2 ^ 5 from Nat.pow_le_pow_right (by decide) hl))]; rfl
end K74

set_option Elab.async false
set_option linter.all false
set_option maxRecDepth 100000
set_option maxHeartbeats 4000000
set_option autoImplicit false
namespace K74
open PySem PySem.Spec PyProof.Rows L2 SK
theorem zeros {α β : Type} (e : α → β) (L : List α) : tAllO (fun _ => some (Int.ofNat 0)) (L.map e) = some (en (zr L.length)) := by
  rw [tAllO_en (xs := L) (e := e) (f := fun _ => some (Int.ofNat 0)) (g := fun _ => Int.ofNat 0) fun x _ => rfl]
  congr 1
  unfold en zr
  rw [List.map_replicate]; exact List.map_const' ..
theorem iSubN {a b : Nat} (h : b ≤ a) : iSub (.ofNat a) (.ofNat b) = .ofNat (a - b) := by rw [iSub_eq]; show (a : Int) - (b : Int) = ((a - b : Nat) : Int); omega
theorem iEq_bi1 (b : Bool) : iEq (bi b) (.ofNat 1) = b := by cases b <;> rfl
theorem tAnyB_eq : ∀ xs : List Bool, tAnyB xs = xs.any id
  | [] => rfl
  | x :: xs => by show bOr x (tAnyB xs) = _; rw [tAnyB_eq xs, bOr_eq]; rfl
theorem ans_zero {T : List Bs} {x : Bs} : ans T x = zr T.length ↔ ∀ t ∈ T, dot t x = false := by
  unfold ans zr
  induction T with
  | nil => exact ⟨fun _ t h => (nomatch h), fun _ => rfl⟩
  | cons t T ih =>
    rw [List.map_cons, List.length_cons, List.replicate_succ, List.cons.injEq, List.forall_mem_cons]
    exact ⟨fun q => ⟨q.1, ih.mp q.2⟩, fun q => ⟨q.1, ih.mpr q.2⟩⟩
theorem inK_any (T : List Bs) (x : Bs) : bNot (tAnyB (T.map fun t => dot x t)) = inK T x := by
  rw [tAnyB_eq, Bool.eq_iff_iff]
  unfold inK bNot
  rw [beq_iff_eq, ans_zero]
  show (!((T.map fun t => dot x t).any id)) = true ↔ _
  rw [Bool.not_eq_true', List.any_eq_false]
  constructor
  · intro q t ht
    have := q (dot x t) (List.mem_map_of_mem ht)
    rw [dot_comm]; exact Bool.eq_false_iff.mpr this
  · intro q b hb
    obtain ⟨t, ht, rfl⟩ := List.mem_map.mp hb
    rw [dot_comm]; exact Bool.eq_false_iff.mp (q t ht)
theorem two_loop {τ : Type} : ∀ (k : Nat) (a : Int) (c : Nat), yFor (ρ := τ) (fun (s18 : Int) (x19 : Int) => (tLet (iMul (Int.ofNat 2) s18) fun size_33 => (some (.nx size_33)))) (tUpN a k) (.ofNat c) = some (.go (.ofNat (2 ^ k * c)))
  | 0, a, c => by rw [Nat.pow_zero, Nat.one_mul]; rfl
  | k + 1, a, c => by
    show yFor _ (a :: tUpN (iAdd a (.ofNat 1)) k) _ = _
    rw [yF_nx (s' := .ofNat (2 * c)) rfl, two_loop k _ (2 * c), Nat.pow_succ, Nat.mul_assoc]
theorem Ker_len {n : Nat} {T : List Bs} : ((Ker n T).length : Int) = cK n T := len_list n _
theorem Ker_mem {n : Nat} {T : List Bs} {x : Bs} (h : x ∈ Ker n T) : x.length = n := mem_allr.mp (List.mem_filter.mp h).1
theorem Ker_ne {n : Nat} {T : List Bs} : Ker n T ≠ [] := List.ne_nil_of_mem (List.mem_filter.mpr ⟨mem_allr.mpr (zr_len n), zr_inK⟩)
theorem Ker_le {n : Nat} (hn : n ≤ 5) {p : Bs → Bool} : ((allr n).filter p).length ≤ 32 := Nat.le_trans (List.length_filter_le _ _) (by rw [allr_len]; exact (show 2 ^ n ≤ 2 ^ 5 from Nat.pow_le_pow_right (by decide) hn))
def Rr (n : Nat) (T : List Bs) : List Bs := (allr n).filter (inR n T)
section
variable {n : Nat} {T : List Bs} (hT : ∀ t ∈ T, t.length = n)
include hT
theorem KK : Ker n (Ker n T) = Rr n T := by
  refine List.filter_congr fun y hy => ?_
  rw [Bool.eq_iff_iff, dual hT (mem_allr.mp hy)]
  unfold inK
  rw [beq_iff_eq, ans_zero]
theorem RK : (Rr n T).length * (Ker n T).length = 2 ^ n := by
  have := sizes hT
  rw [← len_list n (inR n T), ← Ker_len] at this
  exact Int.ofNat.inj (by rw [show (2 : Int) ^ n = ((2 ^ n : Nat) : Int) from by simp] at this; exact (Int.natCast_mul _ _).trans this)
end
theorem pow2_inj {a b : Nat} (h : 2 ^ a = 2 ^ b) : a = b := Nat.pow_right_injective' h
  where Nat.pow_right_injective' {a b : Nat} (h : 2 ^ a = 2 ^ b) : a = b := (Nat.pow_right_inj (by decide : 1 < 2)).mp h
section
variable {n : Nat} (h2 : 2 ≤ n) (hn : n ≤ 5) {T : List Bs} (hT : ∀ t ∈ T, t.length = n) (h0 : T ≠ []) (hl : T.length ≤ 3)
include h2 hn hT hl
theorem sums_set : tSetT (((mades n T).map Prod.snd).map en) = some ((Rr n T).map en) := by
  refine set_rows (by omega) hn (fun x hx => ?_) ?_ fun x hx => ?_
  · obtain ⟨p, hp, rfl⟩ := List.mem_map.mp hx
    obtain ⟨b, _, rfl⟩ := List.mem_map.mp hp
    exact spl_len (zr_len n) hT
  · unfold mades
    rw [List.length_map, List.length_map, allr_len]
    exact Nat.lt_of_le_of_lt (show 2 ^ T.length ≤ 2 ^ 3 from Nat.pow_le_pow_right (by decide) hl) (by decide)
  · rw [inR_iff]
    unfold mades
    rw [List.map_map, List.mem_map]
    exact ⟨fun ⟨b, hb, e⟩ => ⟨b, mem_allr.mpr hb, e⟩, fun ⟨b, hb, e⟩ => ⟨b, mem_allr.mp hb, e⟩⟩
include h0
theorem space_right : t__law_space_right (T.map en) (.ofNat n) ((mades n T).map en2) = some true := by
  obtain ⟨h, p1, p2, p3⟩ := parity hn hT
  have hK : ∀ t ∈ Ker n T, t.length = n := fun t ht => Ker_mem ht
  obtain ⟨h', q1, q2, q3⟩ := parity hn hK
  have l32 : (Ker n T).length ≤ 32 := Ker_le hn
  have r32 : (Rr n T).length ≤ 32 := Ker_le hn
  rw [KK hT] at q3
  have rk := RK hT
  have rp : 0 < (Rr n T).length := Nat.pos_of_ne_zero fun z => by rw [z, Nat.zero_mul] at rk; have := Nat.two_pow_pos n; omega
  have e1 : (Ker n T).length = 2 ^ h' := Nat.eq_of_mul_eq_mul_left rp (rk.trans q3.symm)
  have e2 : h' + h = n := pow2_inj (by rw [Nat.pow_add, ← e1, p3])
  have C1 : t_coset_words (T.map en) (en (zr T.length)) = some ((Ker n T).map en) := coset hn hT (zr_len _) h0
  have C2 : t_coset_words ((Ker n T).map en) (en (zr (Ker n T).length)) = some ((Rr n T).map en) := by
    rw [coset hn hK (zr_len _) Ker_ne]
    show some ((Ker n (Ker n T)).map en) = _
    rw [KK hT]
  have lim : ∀ L : List Bs, L.length ≤ 32 → tLim (L.map en) = some (L.map en) := fun L h => tLim_ok (by rw [List.length_map]; omega)
  have limz : ∀ k, k ≤ 32 → tLim (en (zr k)) = some (en (zr k)) := fun k h => tLim_ok (by rw [en_len, zr_len]; omega)
  have F : tFilO (fun x10 => (tBind (tBind (tAllO (fun x11 => (tBind (t__law_even x10 x11) fun v12 => (some (iEq v12 (Int.ofNat 1))))) (T.map en)) tLim) fun v13 => (some (bNot (tAnyB v13))))) (fun x10 => (some x10)) ((allr n).map en) = some ((Ker n T).map en) := by
    refine tFilO_en (p := inK T) fun x hx => ?_
    rw [tAllO_en (xs := T) (e := en) (g := fun t => dot x t) fun t ht => by rw [even_eq hn (mem_allr.mp hx) (hT t ht), tBind_ok, iEq_bi1], tBind_ok, tLim_ok (by rw [List.length_map]; omega), tBind_ok, inK_any]
  have S : tAllO (fun x20 : List Int × List Int => some x20.2) ((mades n T).map en2) = some (((mades n T).map Prod.snd).map en) := by
    rw [tAllO_en (xs := mades n T) (e := en2) (g := fun p => en p.2) fun p _ => rfl, List.map_map]; rfl
  have ml : (mades n T).length ≤ 32 := by
    unfold mades
    rw [List.length_map, allr_len]
    exact Nat.le_trans (show 2 ^ T.length ≤ 2 ^ 3 from Nat.pow_le_pow_right (by decide) hl) (by decide)
  unfold t__law_space_right
  rw [zeros en T, tBind_ok, limz _ (by omega), tBind_ok, p1, tBind_ok, tLet_ok, tLet_ok, tLet_ok, C1, tBind_ok, tLet_ok, bits_eq hn, tBind_ok, F, tBind_ok, lim _ l32, tBind_ok, tLet_ok, like_rows (by omega) fun x hx => by rw [Ker_mem hx]; exact hn, tBind_ok]
  rw [decide_eq_true rfl, iSubN p2, show bOr (bNot true) (bOr (bNot true) (bOr (iLt (.ofNat (n - h)) (Int.ofNat 0)) (iLt (.ofNat n) (.ofNat (n - h))))) = false from by
    rw [bOr_eq, bOr_eq, bOr_eq, iLt_eq, iLt_eq, decide_eq_false (show ¬ Int.ofNat (n - h) < Int.ofNat 0 from by have := Int.natCast_nonneg (n - h); show ¬ ((n - h : Nat) : Int) < 0; omega), decide_eq_false (show ¬ Int.ofNat n < Int.ofNat (n - h) from by show ¬ (n : Int) < ((n - h : Nat) : Int); omega)]; rfl, bIf_f]
  rw [tRng0 (by omega), tBind_ok, show Int.ofNat 1 = .ofNat 1 from rfl, two_loop, lp_go, iLen_map, iEq_nat, show 2 ^ (n - h) * 1 = (Ker n T).length from by rw [e1, Nat.mul_one]; congr 1; omega, beq_self_eq_true]
  rw [show bNot true = false from rfl, bIf_f, S, tBind_ok, lim _ (by rw [List.length_map]; exact ml), tBind_ok, sums_set h2 hn hT hl, tBind_ok, tLet_ok, zeros en (Ker n T), tBind_ok, limz _ l32, tBind_ok, C2, tBind_ok, like_rows (by omega) fun x hx => by rw [mem_allr.mp (List.mem_filter.mp hx).1]; exact hn, tBind_ok, decide_eq_true rfl]
  rw [show bNot true = false from rfl, bIf_f, iLen_map, yMul_r (by exact Int.natCast_nonneg _) (by show ((Ker n T).length : Int) < _; omega), tBind_ok, tBind_ok, iLen_map, allr_len]
  rw [show iEq (Int.ofNat (Rr n T).length * Int.ofNat (Ker n T).length) (Int.ofNat (2 ^ n)) = true from by
    rw [iEq_eq]; exact decide_eq_true (by rw [← rk]; rfl), bIf_t, q1, tBind_ok, iSubN q2, iSubN (by omega), show n - h' = n - (n - h) from by omega]
  unfold tLike
  rw [show okY (Int.ofNat (n - (n - h))) = true from rfl, bIf_t, iEq_nat, beq_self_eq_true]; rfl
end
end K74

set_option Elab.async false
set_option linter.all false
set_option maxRecDepth 100000
set_option maxHeartbeats 4000000
set_option autoImplicit false
namespace K74
open PySem PySem.Spec PyProof.Rows L2 SK
/-! ### the least changes -/
def rs2 : List Bs := [[false, false], [true, false], [false, true], [true, true]]
def rs3 : List Bs := [[false, false, false], [true, false, false], [false, true, false], [false, false, true], [true, true, false], [true, false, true], [false, true, true], [true, true, true]]
def rs4 : List Bs := [[false, false, false, false], [true, false, false, false], [false, true, false, false], [false, false, true, false], [false, false, false, true], [true, true, false, false], [true, false, true, false], [true, false, false, true], [false, true, true, false], [false, true, false, true], [false, false, true, true], [true, true, true, false], [true, true, false, true], [true, false, true, true], [false, true, true, true], [true, true, true, true]]
def rs5 : List Bs := [[false, false, false, false, false], [true, false, false, false, false], [false, true, false, false, false], [false, false, true, false, false], [false, false, false, true, false], [false, false, false, false, true], [true, true, false, false, false], [true, false, true, false, false], [true, false, false, true, false], [true, false, false, false, true], [false, true, true, false, false], [false, true, false, true, false], [false, true, false, false, true], [false, false, true, true, false], [false, false, true, false, true], [false, false, false, true, true], [true, true, true, false, false], [true, true, false, true, false], [true, true, false, false, true], [true, false, true, true, false], [true, false, true, false, true], [true, false, false, true, true], [false, true, true, true, false], [false, true, true, false, true], [false, true, false, true, true], [false, false, true, true, true], [true, true, true, true, false], [true, true, true, false, true], [true, true, false, true, true], [true, false, true, true, true], [false, true, true, true, true], [true, true, true, true, true]]

def rs : Nat → List Bs
  | 2 => rs2
  | 3 => rs3
  | 4 => rs4
  | 5 => rs5
  | _ => []
def supp : Nat → Bs → List Int
  | _, [] => []
  | i, b :: x => if b then Int.ofNat i :: supp (i + 1) x else supp (i + 1) x
noncomputable def key (x : Bs) : Int × List Int := (iLen (supp 0 x), supp 0 x)
theorem f_sets : allB (fun k => sameR (tBind (t_all_sets (.ofNat (k + 2))) tSortSz) ((rs (k + 2)).map (supp 0))) 4 = true := by decide +kernel
theorem f_rs : allB (fun k => (rs (k + 2)).all (fun x => (allr (k + 2)).contains x) && (allr (k + 2)).all (fun x => (rs (k + 2)).contains x)) 4 = true := by decide +kernel
theorem f_pos : allB (fun k => allL (fun x => allL (fun y => (bEq (tLtPT (key x) (key y)) (Nat.blt ((rs (k + 2)).idxOf x) ((rs (k + 2)).idxOf y))) && (!(Nat.beq ((rs (k + 2)).idxOf x) ((rs (k + 2)).idxOf y)) || (x == y))) (allr (k + 2))) (allr (k + 2))) 4 = true := by decide +kernel
noncomputable def fK (n : Int) (x24 : List Int) : Option (List Int) := (tBind (tRng (Int.ofNat 0) n) fun v25 => (tBind (tFilO (fun x26 => (tBind (tIx x24 x26) fun v27 => (some (iEq v27 (Int.ofNat 1))))) (fun x26 => (some x26)) v25) tLim))
theorem f_one : allB (fun n => allL (fun x => sameI (some (tSum (en x))) (iLen (supp 0 x)) && sameL (fK (.ofNat n) (en x)) (supp 0 x) && sameL (tBind (tAllO (fun x5 => (tIx (tUpN (.ofNat 0) n) x5)) (supp 0 x)) tLim) (supp 0 x)) (allr n)) 6 = true := by decide +kernel
noncomputable def fD (chosen : List Int) (t : List Int) : Option Int := (tBind (tBind (tAllO (fun x10 => (tIx t x10)) chosen) tLim) fun v12 => (some (iMod (tSum v12) (Int.ofNat 2))))
noncomputable def fE (bits : List Int) (x1 : List Int × Int) : Option Int := (tBind (tBind (tAllO (fun x2 => (yMul x2.1 x2.2)) (tZip x1.1 bits)) tLim) fun v4 => (some (iMod (iAdd (tSum v4) x1.2) (Int.ofNat 2))))
theorem f_two : allB (fun n => allL (fun x => allL (fun t => sameI (fD (supp 0 x) (en t)) (bi (dot t x)) && sameI (fE (en x) (en t, bi false)) (bi (dot t x ^^ false)) && sameI (fE (en x) (en t, bi true)) (bi (dot t x ^^ true))) (allr n)) (allr n)) 6 = true := by decide +kernel
section
variable {n : Nat} (hn : n ≤ 5) {x t : Bs} (hx : x.length = n) (ht : t.length = n)
include hn hx
theorem one_all : tSum (en x) = iLen (supp 0 x) ∧ fK (.ofNat n) (en x) = some (supp 0 x) ∧ tBind (tAllO (fun x5 => (tIx (tUpN (.ofNat 0) n) x5)) (supp 0 x)) tLim = some (supp 0 x) := by
  have := allL_mem (allB_lt f_one n (by omega)) x (mem_allr.mpr hx)
  rw [Bool.and_eq_true, Bool.and_eq_true] at this
  exact ⟨Option.some.inj (sameI_eq this.1.1), sameL_eq this.1.2, sameL_eq this.2⟩
include ht
theorem two_all (c : Bool) : fD (supp 0 x) (en t) = some (bi (dot t x)) ∧ fE (en x) (en t, bi c) = some (bi (dot t x ^^ c)) := by
  have := allL_mem (allL_mem (allB_lt f_two n (by omega)) x (mem_allr.mpr hx)) t (mem_allr.mpr ht)
  rw [Bool.and_eq_true, Bool.and_eq_true] at this
  refine ⟨sameI_eq this.1.1, ?_⟩
  cases c
  · exact sameI_eq this.1.2
  · exact sameI_eq this.2
end
section
variable {n : Nat} (h2 : 2 ≤ n) (hn : n ≤ 5)
include h2 hn
theorem mem_rs {x : Bs} : x ∈ rs n ↔ x.length = n := by
  have := allB_lt f_rs (n - 2) (by omega)
  rw [show n - 2 + 2 = n by omega, Bool.and_eq_true, List.all_eq_true, List.all_eq_true] at this
  constructor
  · intro h; exact mem_allr.mp (List.contains_iff_mem.mp (this.1 x h))
  · intro h; exact List.contains_iff_mem.mp (this.2 x (mem_allr.mpr h))
theorem pos_all {x y : Bs} (hx : x.length = n) (hy : y.length = n) : tLtPT (key x) (key y) = decide ((rs n).idxOf x < (rs n).idxOf y) ∧ ((rs n).idxOf x = (rs n).idxOf y → x = y) := by
  have := allL_mem (allL_mem (allB_lt f_pos (n - 2) (by omega)) x (by rw [show n - 2 + 2 = n by omega]; exact mem_allr.mpr hx)) y (by rw [show n - 2 + 2 = n by omega]; exact mem_allr.mpr hy)
  rw [show n - 2 + 2 = n by omega, Bool.and_eq_true] at this
  refine ⟨?_, fun e => ?_⟩
  · have h := this.1
    rw [show Nat.blt ((rs n).idxOf x) ((rs n).idxOf y) = decide ((rs n).idxOf x < (rs n).idxOf y) from by
      rw [Bool.eq_iff_iff, decide_eq_true_eq, Nat.blt_eq]] at h
    revert h
    cases tLtPT (key x) (key y) <;> cases decide ((rs n).idxOf x < (rs n).idxOf y) <;> intro h <;> first | rfl | cases h
  · have h := this.2
    rw [e, Nat.beq_refl] at h
    exact eq_of_beq h
end
theorem zip_en : ∀ (T : List Bs) (m : Bs), tZip (T.map en) (en m) = (T.zip m).map fun p => (en p.1, bi p.2)
  | [], _ => rfl
  | t :: T, [] => rfl
  | t :: T, c :: m => by
    show (en t, bi c) :: tZip (T.map en) (en m) = _
    rw [zip_en T m]; rfl
def lack (T : List Bs) (m x : Bs) : Bs := (T.zip m).map fun p => dot p.1 x ^^ p.2
theorem zip_len {T : List Bs} {m : Bs} : (T.zip m).length ≤ T.length := by rw [List.length_zip]; omega
theorem lacks_eq {n : Nat} (hn : n ≤ 5) {T : List Bs} (hT : ∀ t ∈ T, t.length = n) (hl : T.length ≤ 32) {x : Bs} (hx : x.length = n) (m : Bs) : t_lacks_of (T.map en) (en x) (en m) = some (en (lack T m x)) := by
  have L : t_lacks_of (T.map en) (en x) (en m) = tRun (tBind (tBind (tAllO (fE (en x)) (tZip (T.map en) (en m))) tLim) fun v5 => (some (.rt v5))) := rfl
  have zl := zip_len (T := T) (m := m)
  rw [L, zip_en, tAllO_en (xs := T.zip m) (e := fun p => (en p.1, bi p.2)) (f := fE (en x)) (g := fun p => bi (dot p.1 x ^^ p.2)) fun p hp => (two_all hn hx (hT p.1 (List.of_mem_zip hp).1) p.2).2, tBind_ok, tLim_ok (by rw [List.length_map]; omega)]
  show some ((T.zip m).map fun p => bi (dot p.1 x ^^ p.2)) = _
  unfold lack en
  rw [List.map_map]; rfl
theorem tAllB_eq : ∀ xs : List Bool, tAllB xs = xs.all id
  | [] => rfl
  | x :: xs => by show bAnd x (tAllB xs) = _; rw [tAllB_eq xs, bAnd_eq]; rfl
theorem okl_eq : ∀ {T : List Bs} {l x : Bs}, l.length = T.length → ((T.zip l).all fun p => dot p.1 x == p.2) = (ans T x == l)
  | [], [], _, _ => rfl
  | t :: T, c :: l, x, h => by
    show ((dot t x == c) && (T.zip l).all fun p => dot p.1 x == p.2) = (dot t x :: ans T x == c :: l)
    rw [okl_eq (Nat.succ.inj h)]; rfl
noncomputable def fL (table : List (List Int)) (lacks places : List Int) (s3 : Unit) (x4 : (List Int)) : Option (Res Unit Unit (Option (List Int))) :=
  (tBind (tBind (tAllO (fun x5 => (tIx places x5)) x4) tLim) fun v7 =>
  (tLet v7 fun chosen_8 =>
  (tBind (tBind (tAllO (fun x9 => (tBind (tBind (tAllO (fun x10 => (tIx x9.1 x10)) chosen_8) tLim) fun v12 => (some (iEq (iMod (tSum v12) (Int.ofNat 2)) x9.2)))) (tZip table lacks)) tLim) fun v13 =>
  (bIf (tAllB v13)
  (some (.rt (some chosen_8)))
  (some (.nx ()))))))
theorem iEq_bi (a b : Bool) : iEq (bi a) (bi b) = (a == b) := by cases a <;> cases b <;> rfl
theorem fL_eq {n : Nat} (hn : n ≤ 5) {T : List Bs} (hT : ∀ t ∈ T, t.length = n) (hl : T.length ≤ 32) {l : Bs} (hm : l.length = T.length) {x : Bs} (hx : x.length = n) :
    fL (T.map en) (en l) (tUpN (.ofNat 0) n) () (supp 0 x) = bIf (ans T x == l) (some (.rt (some (supp 0 x)))) (some (.nx ())) := by
  unfold fL
  have zl := zip_len (T := T) (m := l)
  rw [(one_all hn hx).2.2, tBind_ok, tLet_ok, zip_en, tAllO_en (xs := T.zip l) (e := fun p => (en p.1, bi p.2)) (g := fun p => dot p.1 x == p.2) fun p hp => by
    obtain ⟨v, e1, e2⟩ := tBind_some (two_all hn hx (hT p.1 (List.of_mem_zip hp).1) p.2).1
    dsimp only
    rw [e1, tBind_ok, Option.some.inj e2, iEq_bi], tBind_ok, tLim_ok (by rw [List.length_map]; omega), tBind_ok, tAllB_eq, List.all_map, ← okl_eq hm]
  rfl
theorem find_loop {n : Nat} (hn : n ≤ 5) {T : List Bs} (hT : ∀ t ∈ T, t.length = n) (hl : T.length ≤ 32) {l : Bs} (hm : l.length = T.length) : ∀ (S : List Bs), (∀ x ∈ S, x.length = n) →
    yFor (fL (T.map en) (en l) (tUpN (.ofNat 0) n)) (S.map (supp 0)) () = match S.find? fun x => ans T x == l with | some x => some (.out (some (supp 0 x))) | none => some (.go ())
  | [], _ => rfl
  | x :: S, h => by
    rw [List.map_cons, yFor_cons, fL_eq hn hT hl hm (h x List.mem_cons_self), List.find?_cons]
    cases ans T x == l with
    | true => rfl
    | false => exact find_loop hn hT hl hm S fun y hy => h y (List.mem_cons_of_mem _ hy)
section
variable {n : Nat} (h2 : 2 ≤ n) (hn : n ≤ 5) {T : List Bs} (hT : ∀ t ∈ T, t.length = n) (hl : T.length ≤ 32)
include h2 hn hT hl
theorem least_eq {l : Bs} (hm : l.length = T.length) : t_least_changes (T.map en) (en l) (tUpN (.ofNat 0) n) = some (((rs n).find? fun x => ans T x == l).map (supp 0)) := by
  have L : t_least_changes (T.map en) (en l) (tUpN (.ofNat 0) n) = tRun (tBind (t_all_sets (iLen (tUpN (.ofNat 0) n))) fun v1 => (tBind (tSortSz v1) fun v2 => (tLp (yFor (fL (T.map en) (en l) (tUpN (.ofNat 0) n)) v2 ()) fun s3 => (some (.rt none))))) := rfl
  have S := allB_lt f_sets (n - 2) (by omega)
  rw [show n - 2 + 2 = n by omega] at S
  obtain ⟨v, e1, e2⟩ := tBind_some (sameR_eq S)
  rw [L, iLen_eq, tUpN_len, show ((n : Nat) : Int) = .ofNat n from rfl, e1, tBind_ok, e2, tBind_ok, find_loop hn hT hl hm (rs n) fun x hx => (mem_rs h2 hn).mp hx]
  cases (rs n).find? fun x => ans T x == l <;> rfl
theorem changes {x : Bs} (hx : x.length = n) {m : Bs} (hm : m.length = T.length) : t_changes_needed (T.map en) (en x) (en m) = some (((rs n).find? fun y => ans T y == lack T m x).map key) := by
  unfold t_changes_needed
  rw [lacks_eq hn hT hl hx m, tBind_ok, show iLen (en x) = .ofNat n from by rw [iLen_eq, en_len, hx]; rfl, tRng0 (by omega), tBind_ok, least_eq h2 hn hT hl (by unfold lack; rw [List.length_map, List.length_zip, hm]; exact Nat.min_self _), tBind_ok, tLet_ok]
  cases (rs n).find? fun y => ans T y == lack T m x <;> rfl
end
theorem lack_zr {n : Nat} : ∀ {T : List Bs} {m : Bs}, m.length = T.length → lack T m (zr n) = m
  | [], [], _ => rfl
  | t :: T, c :: m, h => by
    show (dot t (zr n) ^^ c) :: lack T m (zr n) = _
    rw [lack_zr (Nat.succ.inj h), dot_comm, dot_zr, Bool.false_xor]
theorem lack_ans {n : Nat} : ∀ {T : List Bs} {x y : Bs}, x.length = n → y.length = n → lack T (ans T y) x = ans T (xr x y)
  | [], _, _, _, _ => rfl
  | t :: T, x, y, hx, hy => by
    show (dot t x ^^ dot t y) :: lack T (ans T y) x = dot t (xr x y) :: ans T (xr x y)
    rw [lack_ans hx hy, dot_comm t (xr x y), dot_xr hx hy, dot_comm x, dot_comm y]
/-! the least of all -/
theorem find_first {α : Type} [BEq α] [LawfulBEq α] {p : α → Bool} : ∀ {l : List α} {z u : α}, l.find? p = some z → u ∈ l → p u = true → l.idxOf z ≤ l.idxOf u
  | x :: l, z, u, h, hu, hp => by
    rw [List.find?_cons] at h
    cases c : p x with
    | true =>
      rw [c] at h; cases h
      rw [List.idxOf_cons_self]; exact Nat.zero_le _
    | false =>
      rw [c] at h
      have hz := List.find?_some h
      have nz : x ≠ z := fun q => by rw [q, hz] at c; cases c
      have nu : x ≠ u := fun q => by rw [q, hp] at c; cases c
      rw [List.idxOf_cons, List.idxOf_cons, show (x == z) = false from beq_eq_false_iff_ne.mpr nz, show (x == u) = false from beq_eq_false_iff_ne.mpr nu]
      exact Nat.succ_le_succ (find_first h ((List.mem_cons.mp hu).resolve_left fun q => nu q.symm) hp)
section
variable {n : Nat} (h2 : 2 ≤ n) (hn : n ≤ 5)
include h2 hn
theorem min_fold : ∀ (xs : List Bs) (x : Bs), x.length = n → (∀ y ∈ xs, y.length = n) → ∃ z, (List.rec (motive := fun _ => Int × List Int → Int × List Int) (fun m => m) (fun y _ ih m => ih (bIf (tLtPT y m) y m)) (xs.map key) (key x) : Int × List Int) = key z ∧ z ∈ x :: xs ∧ ∀ u ∈ x :: xs, (rs n).idxOf z ≤ (rs n).idxOf u
  | [], x, _, _ => ⟨x, rfl, List.mem_cons_self, fun u hu => by cases List.mem_singleton.mp hu; exact Nat.le_refl _⟩
  | y :: xs, x, hx, h => by
    have hy := h y List.mem_cons_self
    have h' : ∀ y ∈ xs, y.length = n := fun z hz => h z (List.mem_cons_of_mem _ hz)
    show ∃ z, (List.rec (motive := fun _ => Int × List Int → Int × List Int) (fun m => m) (fun y _ ih m => ih (bIf (tLtPT y m) y m)) (xs.map key) (bIf (tLtPT (key y) (key x)) (key y) (key x)) : Int × List Int) = key z ∧ _
    rw [(pos_all h2 hn hy hx).1, bIf_eq]
    by_cases c : (rs n).idxOf y < (rs n).idxOf x
    · rw [if_pos (decide_eq_true c)]
      obtain ⟨z, a1, a2, a3⟩ := min_fold xs y hy h'
      refine ⟨z, a1, List.mem_cons_of_mem _ a2, fun u hu => ?_⟩
      rcases List.mem_cons.mp hu with rfl | hu
      · exact Nat.le_trans (a3 y List.mem_cons_self) (Nat.le_of_lt c)
      · exact a3 u hu
    · rw [if_neg (by rw [decide_eq_true_eq]; exact c)]
      obtain ⟨z, a1, a2, a3⟩ := min_fold xs x hx h'
      refine ⟨z, a1, ?_, fun u hu => ?_⟩
      · rcases List.mem_cons.mp a2 with rfl | a2
        · exact List.mem_cons_self
        · exact List.mem_cons_of_mem _ (List.mem_cons_of_mem _ a2)
      · rcases List.mem_cons.mp hu with rfl | hu
        · exact a3 _ List.mem_cons_self
        · rcases List.mem_cons.mp hu with rfl | hu
          · exact Nat.le_trans (a3 x List.mem_cons_self) (by omega)
          · exact a3 u (List.mem_cons_of_mem _ hu)
theorem least_min {p : Bs → Bool} {x0 : Bs} (hx : x0.length = n) (hp : p x0 = true) : ∃ z, (rs n).find? p = some z ∧ tMinPT (((allr n).filter p).map key) = some (key z) := by
  have mem : ∀ x, x ∈ (allr n).filter p ↔ x.length = n ∧ p x = true := fun x => by rw [List.mem_filter, mem_allr]
  cases e : (allr n).filter p with
  | nil => have := (mem x0).mpr ⟨hx, hp⟩; rw [e] at this; cases this
  | cons x xs =>
    rw [e] at mem
    obtain ⟨z, a1, a2, a3⟩ := min_fold h2 hn xs x ((mem x).mp List.mem_cons_self).1 fun y hy => ((mem y).mp (List.mem_cons_of_mem _ hy)).1
    have hz := (mem z).mp a2
    refine ⟨z, ?_, congrArg some a1⟩
    cases f : (rs n).find? p with
    | none => exact absurd hz.2 (List.find?_eq_none.mp f z ((mem_rs h2 hn).mpr hz.1))
    | some w =>
      have hw := List.find?_some f
      have wl := (mem_rs h2 hn).mp (List.mem_of_find?_eq_some f)
      have i1 := find_first f ((mem_rs h2 hn).mpr hz.1) hz.2
      have i2 := a3 w ((mem w).mpr ⟨wl, hw⟩)
      rw [(pos_all h2 hn wl hz.1).2 (Nat.le_antisymm i1 i2)]
end
end K74

set_option Elab.async false
set_option linter.all false
set_option maxRecDepth 100000
set_option maxHeartbeats 4000000
set_option autoImplicit false
namespace K74
open PySem PySem.Spec PyProof.Rows L2 SK
/-! ### weights -/
def wt : Bs → Nat
  | [] => 0
  | b :: x => b.toNat + wt x
theorem wt_eq : ∀ x : Bs, tSum (en x) = .ofNat (wt x)
  | [] => rfl
  | b :: x => by
    show iAdd (bi b) (tSum (en x)) = _
    rw [wt_eq x]
    cases b <;> rfl
def Wj (n j : Nat) (x : Bs) : Int := Sm n fun y => if wt y == j then sg (dot x y) else 0
theorem f_wt : allB (fun n => allB (fun j => allL (fun x => sameI (t__law_weight (en x) (.ofNat j)) (Wj n j x)) (allr n)) (n + 1)) 6 = true := by decide +kernel
theorem weight_eq {n : Nat} (hn : n ≤ 5) {j : Nat} (hj : j ≤ n) {x : Bs} (hx : x.length = n) : t__law_weight (en x) (.ofNat j) = some (Wj n j x) := sameI_eq (allL_mem (allB_lt (allB_lt f_wt n (by omega)) j (by omega)) x (mem_allr.mpr hx))
theorem tSum_sumL : ∀ xs : List Int, tSum xs = sumL xs
  | [] => rfl
  | x :: xs => by
    show iAdd x (tSum xs) = x + sumL xs
    rw [tSum_sumL xs, iAdd_eq]
section
variable {n : Nat} {T : List Bs} (hT : ∀ t ∈ T, t.length = n) {x0 : Bs} (h0 : x0.length = n)
include hT
theorem zr_inR : inR n T (zr n) = true := (dual hT (zr_len n)).mpr fun x _ => dot_zero_right x n
include h0
theorem C_len : ((((allr n).filter fun x => ans T x == ans T x0).length : Nat) : Int) = cK n T := by
  rw [len_list]
  have := coset_sum hT h0 (zr_len n)
  rw [if_pos (zr_inR hT), dot_zero_right, show sg false = 1 from rfl, Int.one_mul] at this
  rw [← this]
  refine Sm_congr fun x _ => ?_
  rw [dot_zero_right]; rfl
theorem mac (j : Nat) : sumL (((allr n).filter fun x => ans T x == ans T x0).map (Wj n j)) = sumL (((allr n).filter fun y => inR n T y && (wt y == j)).map fun y => sg (dot y x0)) * (((allr n).filter fun x => ans T x == ans T x0).length : Int) := by
  rw [C_len hT h0, Sm_list, Sm_list, Int.mul_comm, ← Sm_mul]
  rw [Sm_congr (g := fun x => Sm n fun y => if wt y == j then (if ans T x == ans T x0 then sg (dot x y) else 0) else 0) fun x _ => ?_, Sm_swap]
  · refine Sm_congr fun y hy => ?_
    by_cases c : (wt y == j) = true
    · rw [Sm_congr (g := fun x => if ans T x == ans T x0 then sg (dot x y) else 0) fun x _ => if_pos c, coset_sum hT h0 hy, dot_comm]
      by_cases d : inR n T y = true
      · rw [if_pos d, if_pos (by rw [d, c]; rfl), Int.mul_comm]
      · rw [if_neg d, if_neg (by rw [Bool.and_eq_true]; exact fun q => d q.1), Int.mul_zero, Int.mul_zero]
    · rw [Sm_congr (g := fun _ => 0) fun x _ => if_neg c, if_neg (by rw [Bool.and_eq_true]; exact fun q => c q.2), Sm_const, Int.mul_zero, Int.mul_zero]
  · by_cases d : (ans T x == ans T x0) = true
    · rw [if_pos d]
      exact Sm_congr fun y _ => by rw [if_pos d]
    · rw [if_neg d]
      refine (Sm_congr (g := fun _ => 0) fun y _ => by
        rw [if_neg d]; split <;> rfl).trans ?_ |>.symm
      rw [Sm_const, Int.mul_zero]
end
theorem ans_xr {n : Nat} {x y : Bs} (hx : x.length = n) (hy : y.length = n) : ∀ T : List Bs, ans T (xr x y) = xr (ans T x) (ans T y)
  | [] => rfl
  | t :: T => by
    show dot t (xr x y) :: ans T (xr x y) = (dot t x ^^ dot t y) :: xr (ans T x) (ans T y)
    rw [ans_xr hx hy T, dot_comm t, dot_xr hx hy, dot_comm x, dot_comm y]
theorem xr_zero : ∀ {n : Nat} {x : Bs}, x.length = n → xr x (zr n) = x
  | 0, [], _ => rfl
  | n + 1, b :: x, h => by
    show (b ^^ false) :: xr x (zr n) = _
    rw [xr_zero (Nat.succ.inj h), Bool.xor_false]
theorem shifted {n : Nat} {T : List Bs} {x0 : Bs} (h0 : x0.length = n) : ((Ker n T).map (xr x0)).Perm ((allr n).filter fun x => ans T x == ans T x0) := by
  have back : ∀ {k : Bs}, k.length = n → xr x0 (xr x0 k) = k := fun hk => by rw [xr_comm x0 (xr _ _), xr_comm x0]; exact xr_xr hk h0
  refine (List.perm_ext_iff_of_nodup ?_ ((allr_nd n).filter _)).mpr fun y => ?_
  · have nd : (Ker n T).Nodup := (allr_nd n).filter _
    rw [List.nodup_iff_pairwise_ne] at nd ⊢
    rw [List.pairwise_map]
    exact nd.imp_of_mem fun ha hb q e => q (by rw [← back (Ker_mem ha), e, back (Ker_mem hb)])
  · rw [List.mem_map, List.mem_filter, mem_allr, beq_iff_eq]
    constructor
    · rintro ⟨k, hk, rfl⟩
      have kl := Ker_mem hk
      refine ⟨xr_len h0 kl, ?_⟩
      rw [ans_xr h0 kl, eq_of_beq (List.mem_filter.mp hk).2]
      exact xr_zero (ans_len T x0)
    · rintro ⟨yl, e⟩
      refine ⟨xr x0 y, List.mem_filter.mpr ⟨mem_allr.mpr (xr_len h0 yl), ?_⟩, back yl⟩
      unfold inK
      rw [ans_xr h0 yl, e]
      exact beq_iff_eq.mpr (xr_self (ans_len T x0))
noncomputable def fJ2 (row : Option (List Int)) (s43 : Int) (x44 : (List Int)) : Option (Res Int Int Bool) :=
  (tBind row fun v46 =>
  (tBind (t__law_even x44 v46) fun v47 =>
  (tBind (tIx [(Int.ofNat 1), (iNeg (Int.ofNat 1))] v47) fun v48 =>
  (tLet (iAdd s43 v48) fun due_49 =>
  (some (.nx due_49))))))
noncomputable def fJ (made : List (List Int × List Int)) (row : Option (List Int)) (rows_5 : List (List Int)) (s22 : Unit) (x23 : Int) : Option (Res Unit Unit Bool) :=
  (tBind (tBind (tAllO (fun x35 => (t__law_weight x35 x23)) rows_5) tLim) fun v37 =>
  (tLet (tSum v37) fun whole_38 => (tLet (Int.ofNat 0) fun due_39 => (tBind (tBind (tFilO (fun x40 => (some (iEq (tSum x40.2) x23))) (fun x40 => (some x40.2)) made) tLim) fun v41 =>
  (tBind (tSetT v41) fun v42 =>
  (tLp (yFor (fJ2 row) v42 due_39) fun s43 =>
  (tBind (yMul s43 (iLen rows_5)) fun v45 =>
  (bIf (bNot (iEq whole_38 v45))
  (some (.rt false))
  (some (.nx ()))))))))))
theorem fJ2_loop {n : Nat} (hn : n ≤ 5) {x0 : Bs} (h0 : x0.length = n) : ∀ (L : List Bs) (s : Int), (∀ y ∈ L, y.length = n) → yFor (fJ2 (some (en x0))) (L.map en) s = some (.go (s + sumL (L.map fun y => sg (dot y x0))))
  | [], s, _ => by
    show some (Lp.go s) = some (Lp.go (s + 0))
    rw [Int.add_zero]
  | y :: L, s, h => by
    have st : fJ2 (some (en x0)) s (en y) = some (.nx (s + sg (dot y x0))) := by
      unfold fJ2
      rw [tBind_ok, even_eq hn (h y List.mem_cons_self) h0, tBind_ok, show tIx [(Int.ofNat 1), (iNeg (Int.ofNat 1))] (bi (dot y x0)) = some (sg (dot y x0)) from by cases dot y x0 <;> rfl, tBind_ok, tLet_ok, iAdd_eq]
    rw [List.map_cons, yF_nx st, fJ2_loop hn h0 L _ fun z hz => h z (List.mem_cons_of_mem _ hz), List.map_cons]
    show some (Lp.go (s + sg (dot y x0) + _)) = some (Lp.go (s + (sg (dot y x0) + _)))
    rw [Int.add_assoc]; rfl
theorem tFilO_en2 {α β γ : Type} {c : β → Option Bool} {f : β → Option γ} {e : α → β} {p : α → Bool} {g : α → γ} : ∀ {xs : List α}, (∀ x ∈ xs, c (e x) = some (p x)) → (∀ x ∈ xs, f (e x) = some (g x)) → tFilO c f (xs.map e) = some ((xs.filter p).map g)
  | [], _, _ => rfl
  | x :: xs, h, h2 => by
    show tBind (c (e x)) (fun b => bIf b (tBind (f (e x)) fun y => tBind (tFilO c f (xs.map e)) fun ys => some (y :: ys)) (tFilO c f (xs.map e))) = _
    rw [h x List.mem_cons_self, tBind_ok, tFilO_en2 (fun y hy => h y (List.mem_cons_of_mem _ hy)) (fun y hy => h2 y (List.mem_cons_of_mem _ hy)), h2 x List.mem_cons_self, List.filter_cons]
    cases p x <;> rfl
theorem like_key (p : Int × List Int) (h : p.2.length ≤ 1000000) : tLike (oEq (pEq iEq (lEq iEq))) (okO (okP2 okY okL1)) (some p) (some p) = some true := by
  unfold tLike
  rw [bIf_eq, if_pos]
  · show some (bAnd (iEq p.1 p.1) (lEq iEq p.2 p.2)) = _
    rw [iEq_eq, lEqI_eq, decide_eq_true rfl, decide_eq_true rfl]; rfl
  · show bAnd (okY p.1) (okL1 p.2) = true
    rw [okL1_eq h]; rfl
theorem supp_len : ∀ (x : Bs) (i : Nat), (supp i x).length ≤ x.length
  | [], _ => Nat.le_refl _
  | b :: x, i => by
    have := supp_len x (i + 1)
    unfold supp
    split
    · rw [List.length_cons, List.length_cons]; omega
    · rw [List.length_cons]; omega
section
variable {n : Nat} (h2 : 2 ≤ n) (hn : n ≤ 5) {T : List Bs} (hT : ∀ t ∈ T, t.length = n) (hne : T ≠ []) (hl : T.length ≤ 3)
include h2 hn hT hl
theorem fJ_ok {x0 : Bs} (h0 : x0.length = n) {j : Nat} (hj : j ≤ n) : fJ ((mades n T).map en2) (some (en x0)) (((allr n).filter fun x => ans T x == ans T x0).map en) () (.ofNat j) = some (.nx ()) := by
  have cl : ((allr n).filter fun x => ans T x == ans T x0).length ≤ 32 := Ker_le hn
  have ml : (mades n T).length ≤ 32 := by
    unfold mades
    rw [List.length_map, allr_len]
    exact Nat.le_trans (show 2 ^ T.length ≤ 2 ^ 3 from Nat.pow_le_pow_right (by decide) hl) (by decide)
  have fl : ((mades n T).filter fun p => wt p.2 == j).length ≤ 32 := Nat.le_trans (List.length_filter_le _ _) ml
  have F : tFilO (fun x40 : List Int × List Int => (some (iEq (tSum x40.2) (.ofNat j)))) (fun x40 => (some x40.2)) ((mades n T).map en2) = some ((((mades n T).filter fun p => wt p.2 == j).map Prod.snd).map en) := by
    rw [tFilO_en2 (e := en2) (p := fun p => wt p.2 == j) (g := fun p => en p.2) (fun p _ => by
      show some (iEq (tSum (en p.2)) (.ofNat j)) = _
      rw [wt_eq, iEq_nat]) fun p _ => rfl, List.map_map]; rfl
  have S : tSetT ((((mades n T).filter fun p => wt p.2 == j).map Prod.snd).map en) = some (((allr n).filter fun y => inR n T y && (wt y == j)).map en) := by
    refine set_rows (by omega) hn (fun x hx => ?_) (by rw [List.length_map]; omega) fun x hx => ?_
    · obtain ⟨p, hp, rfl⟩ := List.mem_map.mp hx
      obtain ⟨b, _, rfl⟩ := List.mem_map.mp (List.mem_filter.mp hp).1
      exact spl_len (zr_len n) hT
    · rw [Bool.and_eq_true, inR_iff, List.mem_map]
      unfold mades
      constructor
      · rintro ⟨⟨b, hb, e⟩, w⟩
        exact ⟨(b, spl (zr n) T b), List.mem_filter.mpr ⟨List.mem_map.mpr ⟨b, mem_allr.mpr hb, rfl⟩, by rw [e]; exact w⟩, e⟩
      · rintro ⟨p, hp, rfl⟩
        obtain ⟨hp, w⟩ := List.mem_filter.mp hp
        obtain ⟨b, hb, rfl⟩ := List.mem_map.mp hp
        exact ⟨⟨b, mem_allr.mp hb, rfl⟩, w⟩
  unfold fJ
  rw [tAllO_en (xs := (allr n).filter fun x => ans T x == ans T x0) (e := en) (g := Wj n j) fun x hx => weight_eq hn hj (mem_allr.mp (List.mem_filter.mp hx).1), tBind_ok, tLim_ok (by rw [List.length_map]; omega), tBind_ok, tLet_ok, tLet_ok, F, tBind_ok, tLim_ok (by rw [List.length_map, List.length_map]; omega), tBind_ok, S, tBind_ok]
  rw [fJ2_loop hn h0 _ _ fun y hy => mem_allr.mp (List.mem_filter.mp hy).1, lp_go, iLen_map, yMul_r (by exact Int.natCast_nonneg _) (by show (((allr n).filter fun x => ans T x == ans T x0).length : Int) < _; omega), tBind_ok, tSum_sumL, mac hT h0 j, iEq_eq]
  rw [decide_eq_true (by rw [show (Int.ofNat 0 : Int) = 0 from rfl, Int.zero_add]; rfl)]; rfl
theorem fJ_loop {x0 : Bs} (h0 : x0.length = n) : ∀ (k p : Nat), p + k ≤ n + 1 → yFor (fJ ((mades n T).map en2) (some (en x0)) (((allr n).filter fun x => ans T x == ans T x0).map en)) (tUpN (.ofNat p) k) () = some (.go ())
  | 0, p, _ => rfl
  | k + 1, p, h => by
    show yFor _ (.ofNat p :: tUpN (.ofNat (p + 1)) k) _ = _
    rw [yF_nx (fJ_ok h2 hn hT hl h0 (by omega))]
    exact fJ_loop h0 k (p + 1) (by omega)
include hne
theorem coset_right {x0 : Bs} (h0 : x0.length = n) : t__law_coset_right (T.map en) (.ofNat n) ((mades n T).map en2) (en (ans T x0)) (some (en x0)) = some true := by
  have C1 : t_coset_words (T.map en) (en (ans T x0)) = some (((allr n).filter fun x => ans T x == ans T x0).map en) := coset hn hT (ans_len _ _) hne
  have C0 : t_coset_words (T.map en) (en (zr T.length)) = some ((Ker n T).map en) := coset hn hT (zr_len _) hne
  have kl : (Ker n T).length ≤ 32 := Ker_le hn
  have cl : ((allr n).filter fun x => ans T x == ans T x0).length ≤ 32 := Ker_le hn
  have U : t__law_coset_right (T.map en) (.ofNat n) ((mades n T).map en2) (en (ans T x0)) (some (en x0)) = tRun
    (tBind (t_coset_words (T.map en) (en (ans T x0))) fun v1 =>
    (tBind (tBind (tAllO (fun x2 => (some (Int.ofNat 0))) (T.map en)) tLim) fun v3 =>
    (tBind (t_coset_words (T.map en) v3) fun v4 =>
    (tBind (tBind (tAllO (fun x11 => (tBind (some (en x0)) fun v12 => (t__law_sum v12 x11))) v4) tLim) fun v14 =>
    (tBind (tSortT2 v14) fun v15 =>
    (tBind (tLike (lEq (lEq iEq)) (okT okL1) v1 v15) fun v16 =>
    (bIf (bNot v16)
    (some (.rt false))
    (tBind (tBind (tAllO (fun x17 => (tBind (t_squeezed (T.map en) x17) fun v18 => (tLike (lEq iEq) okL1 v18 (en (ans T x0))))) v1) tLim) fun v20 =>
    (bIf (bNot (tAllB v20))
    (some (.rt false))
    (tBind (tRng (Int.ofNat 0) (iAdd (.ofNat n) (Int.ofNat 1))) fun v21 =>
    (tLp (yFor (fJ ((mades n T).map en2) (some (en x0)) v1) v21 ()) fun s22 =>
    (tBind (tBind (tAllO (fun x24 => (tBind (tRng (Int.ofNat 0) (.ofNat n)) fun v25 => (tBind (tBind (tFilO (fun x26 => (tBind (tIx x24 x26) fun v27 => (some (iEq v27 (Int.ofNat 1))))) (fun x26 => (some x26)) v25) tLim) fun v28 => (some ((tSum x24), v28))))) v1) tLim) fun v29 =>
    (tBind (tMinPT v29) fun v30 =>
    (tLet v30 fun least_31 =>
    (tBind (yRep [(Int.ofNat 0)] (.ofNat n)) fun v32 =>
    (tBind (t_changes_needed (T.map en) v32 (en (ans T x0))) fun v33 =>
    (tBind (tLike (oEq (pEq iEq (lEq iEq))) (okO (okP2 okY okL1)) v33 (some least_31)) fun v34 =>
    (some (.rt v34))))))))))))))))))) := rfl
  rw [U, C1, tBind_ok, zeros en T, tBind_ok, tLim_ok (by rw [en_len, zr_len]; omega), tBind_ok, C0, tBind_ok]
  rw [tAllO_en (xs := Ker n T) (e := en) (g := fun k => en (xr x0 k)) fun k hk => by rw [tBind_ok, sum_eq hn h0 (Ker_mem hk)], tBind_ok, tLim_ok (by rw [List.length_map]; omega), tBind_ok]
  rw [show (Ker n T).map (fun k => en (xr x0 k)) = ((Ker n T).map (xr x0)).map en from by rw [List.map_map]; rfl, sort_rows h2 hn (shifted h0), tBind_ok, like_rows (by omega) fun x hx => by rw [mem_allr.mp (List.mem_filter.mp hx).1]; exact hn, tBind_ok, decide_eq_true rfl, show bNot true = false from rfl, bIf_f]
  rw [tAllO_en (xs := (allr n).filter fun x => ans T x == ans T x0) (e := en) (g := fun _ => true) fun x hx => by
    rw [squeezed hn hT (by omega) (mem_allr.mp (List.mem_filter.mp hx).1), tBind_ok, like_row (by rw [ans_len]; omega), decide_eq_true (eq_of_beq (List.mem_filter.mp hx).2)], tBind_ok, tLim_ok (by rw [List.length_map]; omega), tBind_ok, tAllB_ok, show bNot true = false from rfl, bIf_f]
  rw [show iAdd (Int.ofNat n) (Int.ofNat 1) = .ofNat (n + 1) from rfl, tRng0 (by omega), tBind_ok, fJ_loop h2 hn hT hl h0 (n + 1) 0 (by omega), lp_go]
  rw [tAllO_en (xs := (allr n).filter fun x => ans T x == ans T x0) (e := en) (g := key) fun x hx => by
    have hx := mem_allr.mp (List.mem_filter.mp hx).1
    obtain ⟨o1, o2, _⟩ := one_all hn hx
    unfold fK at o2
    obtain ⟨v, e1, e2⟩ := tBind_some o2
    rw [e1, tBind_ok, e2, tBind_ok, o1]; rfl, tBind_ok, tLim_ok (by rw [List.length_map]; omega), tBind_ok]
  obtain ⟨z, z1, z2⟩ := least_min h2 hn (p := fun x => ans T x == ans T x0) h0 (beq_self_eq_true _)
  rw [z2, tBind_ok, tLet_ok, rep_eq hn, tBind_ok, changes h2 hn hT (by omega) (zr_len n) (ans_len T x0), tBind_ok, lack_zr (ans_len T x0), z1, Option.map_some, like_key]
  · rfl
  · show (supp 0 z).length ≤ _
    have := supp_len z 0
    have := (mem_rs h2 hn).mp (List.mem_of_find?_eq_some z1)
    omega
theorem coset_none {m : Bs} (hm : m.length = T.length) (hno : ∀ x : Bs, x.length = n → ans T x ≠ m) : t__law_coset_right (T.map en) (.ofNat n) ((mades n T).map en2) (en m) none = some true := by
  have C1 : t_coset_words (T.map en) (en m) = some (((allr n).filter fun x => ans T x == m).map en) := coset hn hT hm hne
  have C0 : t_coset_words (T.map en) (en (zr T.length)) = some ((Ker n T).map en) := coset hn hT (zr_len _) hne
  rw [show (allr n).filter (fun x => ans T x == m) = [] from List.filter_eq_nil_iff.mpr fun x hx q => hno x (mem_allr.mp hx) (eq_of_beq q)] at C1
  have F : (rs n).find? (fun y => ans T y == m) = none := List.find?_eq_none.mpr fun x hx q => hno x ((mem_rs h2 hn).mp hx) (eq_of_beq q)
  unfold t__law_coset_right
  rw [C1, tBind_ok, zeros en T, tBind_ok, tLim_ok (by rw [en_len, zr_len]; omega), tBind_ok, C0, tBind_ok, tLet_ok, tLet_ok, show oIsN (none : Option (List Int)) = true from rfl, bIf_t]
  rw [show tLike (lEq (lEq iEq)) (okT okL1) (([] : List Bs).map en) ([] : (List (List Int))) = some true from rfl, tBind_ok, bIf_t, rep_eq hn, tBind_ok, changes h2 hn hT (by omega) (zr_len n) hm, lack_zr hm, F]
  rfl
theorem changes_right {x y : Bs} (hx : x.length = n) (hy : y.length = n) : t__law_changes_right (T.map en) (.ofNat n) (en x) (en y) = some true := by
  have A : ∀ z : Bs, (T.map fun t => bi (dot z t)) = en (ans T z) := fun z => by
    unfold en ans
    rw [List.map_map]
    exact List.map_congr_left fun t _ => by rw [dot_comm]; rfl
  have xl := xr_len hx hy
  unfold t__law_changes_right
  rw [tAllO_en (xs := T) (e := en) (g := fun t => bi (dot y t)) fun t ht => even_eq hn hy (hT t ht), tBind_ok, A, tLim_ok (by rw [en_len, ans_len]; omega), tBind_ok, tLet_ok]
  rw [tAllO_en (xs := T) (e := en) (g := fun t => bi (dot (xr x y) t)) fun t ht => by rw [sum_eq hn hx hy, tBind_ok, even_eq hn xl (hT t ht)], tBind_ok, A, tLim_ok (by rw [en_len, ans_len]; omega), tBind_ok, tLet_ok]
  rw [squeezed hn hT (by omega) hy, tBind_ok, like_row (by rw [ans_len]; omega), tBind_ok, decide_eq_true rfl, show bNot true = false from rfl, bIf_f]
  rw [changes h2 hn hT (by omega) hx (ans_len T y), tBind_ok, tLet_ok, lack_ans hx hy]
  obtain ⟨z, z1, _⟩ := least_min h2 hn (p := fun w => ans T w == ans T (xr x y)) xl (beq_self_eq_true _)
  rw [z1, Option.map_some, show bNot (oIsN (some (key z))) = true from rfl, bIf_t, rep_eq hn, tBind_ok, changes h2 hn hT (by omega) (zr_len n) (ans_len T _), tBind_ok, lack_zr (ans_len T _), z1, Option.map_some, like_key]
  · rfl
  · show (supp 0 z).length ≤ _
    have := supp_len z 0
    have := (mem_rs h2 hn).mp (List.mem_of_find?_eq_some z1)
    omega
end
end K74

set_option Elab.async false
set_option linter.all false
set_option maxRecDepth 100000
set_option maxHeartbeats 4000000
set_option autoImplicit false
namespace K74
open PySem PySem.Spec PyProof.Rows L2 SK
theorem e_bits {row : List Int} (hl : row.length = 40) (hr : ∀ x ∈ row, 0 ≤ x ∧ x < 1000003) (base : Nat) : ∀ (m i : Nat), base + i + m ≤ 40 → ∃ bl : Bs, tAllO (fun x => (tBind (tIx row (iAdd (.ofNat base) x)) fun v => (some (iMod v (Int.ofNat 2))))) (tUpN (.ofNat i) m) = some (en bl) ∧ bl.length = m
  | 0, i, _ => ⟨[], rfl, rfl⟩
  | m + 1, i, h => by
    obtain ⟨bl, h1, h2⟩ := e_bits hl hr base m (i + 1) (by omega)
    obtain ⟨c, hc⟩ := cell hr (base + i) (by omega)
    have e6 : iMod (Int.ofNat c) (Int.ofNat 2) = bi (decide (c % 2 = 1)) := by
      show Int.ofNat (c % 2) = _
      rcases Nat.mod_two_eq_zero_or_one c with h | h <;> rw [h] <;> rfl
    refine ⟨decide (c % 2 = 1) :: bl, ?_, by rw [List.length_cons, h2]⟩
    show tBind (tBind (tIx row (.ofNat (base + i))) fun v => some (iMod v (Int.ofNat 2))) (fun y => tBind (tAllO _ (tUpN (.ofNat (i + 1)) m)) fun ys => some (y :: ys)) = _
    rw [hc, tBind_ok, tBind_ok, h1, tBind_ok, e6]; rfl
noncomputable def fT (row : List Int) (n : Int) (s7 : (List (List Int))) (x8 : Int) : Option (Res (List (List Int)) (List (List Int)) (List (List Int))) :=
  (tBind (tRng (Int.ofNat 0) n) fun v17 =>
  (tBind (tBind (tAllO (fun x18 => (tBind (tIx row (iAdd (iAdd (Int.ofNat 2) (iMul (Int.ofNat 5) x8)) x18)) fun v19 => (some (iMod v19 (Int.ofNat 2))))) v17) tLim) fun v20 =>
  (tBind (tApp s7 v20) fun table_16 =>
  (some (.nx table_16)))))
theorem rows_loop {row : List Int} (hl : row.length = 40) (hr : ∀ x ∈ row, 0 ≤ x ∧ x < 1000003) {n : Nat} (hn : n ≤ 5) : ∀ (k p : Nat) (acc : List Bs), p + k ≤ 3 → acc.length ≤ p → (∀ t ∈ acc, t.length = n) →
    ∃ L : List Bs, yFor (fT row (.ofNat n)) (tUpN (.ofNat p) k) (acc.map en) = some (.go ((acc ++ L).map en)) ∧ L.length = k ∧ ∀ t ∈ acc ++ L, t.length = n
  | 0, p, acc, _, _, h => ⟨[], by rw [List.append_nil]; rfl, rfl, by rw [List.append_nil]; exact h⟩
  | k + 1, p, acc, hp, ha, h => by
    obtain ⟨b, b1, b2⟩ := e_bits hl hr (2 + 5 * p) n 0 (by omega)
    have st : fT row (.ofNat n) (acc.map en) (.ofNat p) = some (.nx ((acc ++ [b]).map en)) := by
      unfold fT
      rw [tRng0 (by omega), tBind_ok, show iAdd (Int.ofNat 2) (iMul (Int.ofNat 5) (.ofNat p)) = .ofNat (2 + 5 * p) from rfl, b1, tBind_ok, tLim_ok (by rw [en_len]; omega), tBind_ok, tApp_ok (by rw [List.length_map]; omega), tBind_ok, List.map_append]; rfl
    obtain ⟨L, l1, l2, l3⟩ := rows_loop hl hr hn k (p + 1) (acc ++ [b]) (by omega) (by rw [List.length_append]; show acc.length + 1 ≤ _; omega) fun t ht => by
      rcases List.mem_append.mp ht with ht | ht
      · exact h t ht
      · cases List.mem_singleton.mp ht; exact b2
    refine ⟨b :: L, ?_, by rw [List.length_cons, l2], ?_⟩
    · show yFor _ (.ofNat p :: tUpN (.ofNat (p + 1)) k) _ = _
      rw [yF_nx st, l1, List.append_assoc]; rfl
    · rw [List.append_assoc] at l3; exact l3
theorem table {row : List Int} (hl : row.length = 40) (hr : ∀ x ∈ row, 0 ≤ x ∧ x < 1000003) : ∃ (n : Nat) (T : List Bs), 2 ≤ n ∧ n ≤ 5 ∧ (∀ t ∈ T, t.length = n) ∧ T ≠ [] ∧ T.length ≤ 3 ∧ t__law_table row = some (T.map en) := by
  obtain ⟨c0, e0⟩ := cell hr 0 (by omega)
  obtain ⟨c1, e1⟩ := cell hr 1 (by omega)
  obtain ⟨c2, e2⟩ := cell hr 17 (by omega)
  have hc0 := Nat.mod_lt c0 (show 4 > 0 by decide)
  have hc1 := Nat.mod_lt c1 (show 3 > 0 by decide)
  have U : t__law_table row = tRun (tBind (tIx row (Int.ofNat 0)) fun v1 => (tBind (tIx row (Int.ofNat 1)) fun v2 =>
    (tLet (iAdd (Int.ofNat 2) (iMod v1 (Int.ofNat 4))) fun n_3 => (tLet (iAdd (Int.ofNat 1) (iMod v2 (Int.ofNat 3))) fun count_4 => (tBind (tRng (Int.ofNat 0) count_4) fun v6 =>
    (tLp (yFor (fT row n_3) v6 (([] : List Bs).map en)) fun s7 =>
    (tBind (bIf (iEq count_4 (Int.ofNat 3)) (tBind (tIx row (Int.ofNat 17)) fun v9 => (some (iEq (iMod v9 (Int.ofNat 3)) (Int.ofNat 1)))) (some false)) fun v10 =>
    (tSq (bIf v10
    (tBind (tIx s7 (Int.ofNat 0)) fun v13 =>
    (tBind (tIx s7 (Int.ofNat 1)) fun v14 =>
    (tBind (t__law_sum v13 v14) fun v15 =>
    (tBind (tSet s7 (Int.ofNat 2) v15) fun table_12 =>
    (some (Res.nx table_12 : Res (List (List Int)) Unit (List (List Int))))))))
    (some (.nx s7))) fun j11 =>
    (some (.rt j11)))))))))) := rfl
  have a0 : iAdd (Int.ofNat 2) (iMod (Int.ofNat c0) (Int.ofNat 4)) = .ofNat (2 + c0 % 4) := rfl
  have a1 : iAdd (Int.ofNat 1) (iMod (Int.ofNat c1) (Int.ofNat 3)) = .ofNat (1 + c1 % 3) := rfl
  have hn : 2 + c0 % 4 ≤ 5 := by omega
  obtain ⟨L, l1, l2, l3⟩ := rows_loop hl hr hn (1 + c1 % 3) 0 [] (by omega) (Nat.le_refl _) fun t ht => (nomatch ht)
  rw [List.nil_append] at l1 l3
  rw [U, e0, tBind_ok, e1, tBind_ok, tLet_ok, tLet_ok, a0, a1, tRng0 (by omega), tBind_ok, l1, lp_go, e2, tBind_ok]
  rw [iEq_nat]
  have plain : ∃ (n : Nat) (T : List Bs), 2 ≤ n ∧ n ≤ 5 ∧ (∀ t ∈ T, t.length = n) ∧ T ≠ [] ∧ T.length ≤ 3 ∧ some (L.map en) = some (T.map en) := ⟨2 + c0 % 4, L, by omega, hn, l3, fun q => by rw [q] at l2; simp at l2; omega, by omega, rfl⟩
  by_cases c : 1 + c1 % 3 = 3
  · rw [beq_iff_eq.mpr c, bIf_t, tBind_ok]
    cases d : iEq (iMod (Int.ofNat c2) (Int.ofNat 3)) (Int.ofNat 1) with
    | false => exact plain
    | true =>
      rw [c] at l2
      match L, l2, l3 with
      | [a, b, g], _, l3 =>
        have ha := l3 a List.mem_cons_self
        have hb := l3 b (List.mem_cons_of_mem _ List.mem_cons_self)
        refine ⟨2 + c0 % 4, [a, b, xr a b], by omega, hn, fun t ht => ?_, by simp, by simp, ?_⟩
        · rcases List.mem_cons.mp ht with rfl | ht
          · exact ha
          · rcases List.mem_cons.mp ht with rfl | ht
            · exact hb
            · cases List.mem_singleton.mp ht; exact xr_len ha hb
        · rw [bIf_t]
          show tRun (tSq (tBind (some (en a)) fun v13 => tBind (some (en b)) fun v14 => tBind (t__law_sum v13 v14) fun v15 => tBind (tSet ([a, b, g].map en) (Int.ofNat 2) v15) fun table_12 => some (Res.nx table_12 : Res (List (List Int)) Unit (List (List Int)))) fun j11 => some (.rt j11)) = _
          rw [tBind_ok, tBind_ok, sum_eq hn ha hb]; rfl
  · rw [beq_eq_false_iff_ne.mpr c, bIf_f, tBind_ok]
    exact plain
theorem last_of {L : List Bs} (h : L ≠ []) : ∃ x ∈ L, tIx (L.map en) (iNeg (Int.ofNat 1)) = some (en x) := by
  have hl := List.length_pos_iff.mpr h
  refine ⟨L[L.length - 1], List.getElem_mem _, ?_⟩
  show bIf (Nat.blt 0 (tLenN (L.map en))) (tNth (L.map en) (Nat.sub (tLenN (L.map en)) (Nat.succ 0))) none = _
  rw [tLenN_eq, List.length_map, show Nat.blt 0 L.length = true from by rw [Nat.blt_eq]; exact hl, bIf_t, tNth_eq]
  show (L.map en)[L.length - 1]? = _
  rw [List.getElem?_map, List.getElem?_eq_getElem (by omega)]; rfl
theorem law_true : ∀ ns : List Int, ns.length ≤ 63 → m_law [.scr ns] = some (.bl true) := law_typed fun row hl hr => by
  obtain ⟨n, T, h2, hn, hT, hne, h3, et⟩ := table hl hr
  have n40 : n ≤ 1000 := by omega
  obtain ⟨x, x1, xl⟩ := e_bits hl hr 18 n 0 (by omega)
  obtain ⟨y, y1, yl⟩ := e_bits hl hr 23 n 0 (by omega)
  obtain ⟨m, m1, ml⟩ := e_bits hl hr 28 T.length 0 (by omega)
  have A : ∀ z : Bs, (T.map fun t => bi (dot z t)) = en (ans T z) := fun z => by
    unfold en ans
    rw [List.map_map]
    exact List.map_congr_left fun t _ => by rw [dot_comm]; rfl
  have lim : ∀ b : Bs, b.length ≤ 5 → tLim (en b) = some (en b) := fun b h => tLim_ok (by rw [en_len]; omega)
  have et0 : tIx (T.map en) (Int.ofNat 0) = some (en (T.head hne)) := by
    cases T with
    | nil => exact absurd rfl hne
    | cons t T => rfl
  have n_eq : iLen (en (T.head hne)) = .ofNat n := by rw [iLen_eq, en_len, hT _ (List.head_mem hne)]; rfl
  have F : tFilO (fun x29 => (tBind (tBind (tAllO (fun x30 => (t__law_even x29 x30)) (T.map en)) tLim) fun v32 => (some ((lEq iEq) v32 (en m))))) (fun x29 => (some x29)) ((allr n).map en) = some (((allr n).filter fun z => ans T z == m).map en) := by
    refine tFilO_en (p := fun z => ans T z == m) fun z hz => ?_
    rw [tAllO_en (xs := T) (e := en) (g := fun t => bi (dot z t)) fun t ht => even_eq hn (mem_allr.mp hz) (hT t ht), tBind_ok, A, lim _ (by rw [ans_len]; omega), tBind_ok, lEqI_eq]
    congr 1
    rw [Bool.eq_iff_iff, decide_eq_true_eq, beq_iff_eq]
    exact ⟨en_inj, congrArg en⟩
  unfold t_law
  rw [et, tBind_ok, tLet_ok, et0, tBind_ok, n_eq, tLet_ok, made hn hT (by omega), tBind_ok, tLet_ok, tRng0 n40, tBind_ok, x1, tBind_ok, lim x (by omega), tBind_ok, tLet_ok, tBind_ok, y1, tBind_ok, lim y (by omega), tBind_ok, tLet_ok]
  rw [space_right h2 hn hT hne h3, tBind_ok, show bNot true = false from rfl, bIf_f]
  rw [tAllO_en (xs := T) (e := en) (g := fun t => bi (dot x t)) fun t ht => even_eq hn xl (hT t ht), tBind_ok, A, lim _ (by rw [ans_len]; omega), tBind_ok, tLet_ok, iLen_map, tRng0 (by omega), tBind_ok, m1, tBind_ok, lim m (by omega), tBind_ok, tLet_ok]
  rw [coset_right h2 hn hT hne h3 xl, tBind_ok, show bNot true = false from rfl, bIf_f, bits_eq hn, tBind_ok, F, tBind_ok, tLim_ok (by rw [List.length_map]; have := Ker_le hn (p := fun z => ans T z == m); omega), tBind_ok, tLet_ok, tLet_ok, iLen_map]
  have fin : ∀ o : Option (List Int), t__law_coset_right (T.map en) (.ofNat n) ((mades n T).map en2) (en m) o = some true →
      tRun (tSq (some (Res.nx o : Res (Option (List Int)) Unit Bool)) fun j36 => (tBind (t__law_coset_right (T.map en) (.ofNat n) ((mades n T).map en2) (en m) j36) fun v39 => (bIf (bNot v39) (some (.rt false)) (tBind (t__law_changes_right (T.map en) (.ofNat n) (en x) (en y)) fun v40 => (some (.rt v40)))))) = some true := fun o ho => by
    rw [tSq_ok, ho, tBind_ok, changes_right h2 hn hT hne h3 xl yl]; rfl
  cases e : (allr n).filter fun z => ans T z == m with
  | nil =>
    refine fin none (coset_none h2 hn hT hne h3 ml fun z hz q => ?_)
    have : z ∈ (allr n).filter fun z => ans T z == m := List.mem_filter.mpr ⟨mem_allr.mpr hz, beq_iff_eq.mpr q⟩
    rw [e] at this; cases this
  | cons w W =>
    obtain ⟨z, z1, z2⟩ := last_of (L := w :: W) (List.cons_ne_nil _ _)
    rw [← e] at z1
    obtain ⟨zl, zm⟩ := List.mem_filter.mp z1
    have zl := mem_allr.mp zl
    have zm : ans T z = m := eq_of_beq zm
    rw [show iLt (Int.ofNat 0) (Int.ofNat (w :: W).length) = true from rfl, bIf_t, z2, tBind_ok, tLet_ok]
    refine fin (some (en z)) ?_
    have := coset_right h2 hn hT hne h3 zl
    rw [zm] at this
    exact this
end K74

open PySem PySem.W PySem.Calls PyProof.Rows
set_option maxHeartbeats 0 in
theorem PySem.Challenge.cw_sealskept_k74_whole_weights_of_rows_holds : PySem.Challenge.rw_sealskept_k74_whole_weights_of_rows.Holds := by
  w_on; o_law
  refine HandSHeadRun.head_any (r := OpenLaw.row PySem.Challenge.rw_sealskept_k74_whole_weights_of_rows) (q := view (OpenLaw.row PySem.Challenge.rw_sealskept_k74_whole_weights_of_rows).prog [29]) (H := K74.hk) (ob := K74.ob) (M := 20000) (loose := K74.nms) (d := HandSHeadRun.topDef (OpenLaw.row PySem.Challenge.rw_sealskept_k74_whole_weights_of_rows).prog 29) (kwd := []) K74.ob_eq
    (by kernel_rfl) (fun s => by kernel_rfl) K74.run (by kernel_rfl) (by kernel_rfl) (by kernel_rfl) (by rfl) (by first | assumption | decide +kernel) (by decide +kernel) ⟨rfl, rfl, rfl, rfl, rfl, by decide +kernel⟩ ?hw ?hc
  case hw => w_witness2
  case hc =>
    refine L2.walk_ofE (l := PySem.Challenge.rw_sealskept_k74_whole_weights_of_rows) (n := 63) (k := 14) (x := "script") (CX := L2.CX0) rfl (by decide) (by kernel_rfl) ⟨rfl, by decide, by decide⟩ ?F (fun _ _ _ _ z => z)
    intro w mg fa h Y G hmg0
    obtain ⟨K, KX, c⟩ := Y
    have hmg : mg ("law" : PySem.Str) = some (.ref fa) := by
      have e : (HandSHeadRun.topDef (OpenLaw.row PySem.Challenge.rw_sealskept_k74_whole_weights_of_rows).prog 29).name = ("law" : PySem.Str) := by kernel_rfl
      rw [← e]
      exact hmg0
    obtain ⟨T, hB⟩ := K74.facts KX G c
    have ef := hmg.symm.trans T.g_law
    cases ef
    exact ⟨K, T.fd_law, SK.spLaw K, KX, hB, fun H a ns hl _ hS => ⟨a, ns, rfl, hS, hl, fun _ => rfl⟩, fun base _ _ => SK.law_ok (K74.ok_law T) K74.law_true⟩

