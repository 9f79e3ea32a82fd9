import PyProof.Rows.All
import Wide.All
import OpenK.AllK
import Wide.FinOn
import HandS.Base
import HandS.Call
import HandS.List
import HandS.Comp
import HandS.Ends
import HandS.Flow
import HandS.Style
import HandS.Wide
import HandS.TupAny
import HandS.IsInst
import HandS.Text
import HandS.Iter
import HandS.Deep
import HandS.Words
import HandS.Lambda
import HandS.Zip
import PySem.Challenge.RW_headhold_k21_events_judged
section
set_option Elab.async false
set_option linter.all false
set_option autoImplicit false
set_option maxRecDepth 100000
set_option maxHeartbeats 4000000
/-! DL0: values as data, mutable objects by address, the state that links both with the layer's abstract heap. -/
namespace DL
open PySem PySem.Spec PyProof.Rows L2

/-- a value as data: what never changes is written out; a mutable object is its address -/
inductive D where
  | non | bl (b : Bool) | int (i : Int) | str (x : Str)
  | lst (xs : List D) | tup (xs : List D)
  | ref (a : Addr)
  | obj (C : Addr) (ns : List Str) (ds : List D)
  | dct (ks : List Key) (ds : List D)
  | ty (n : String)
  /-- a list that is only cut or walked (the script) -/
  | klst (xs : List D)

/-- a mutable object -/
inductive M where
  | lst (ds : List D)
  | ins (C : Addr) (ns : List Str) (ds : List D)
  | dct (ks : List Key) (ds : List D)

abbrev Eta := Addr → Option M
def eup (η : Eta) (a : Addr) (m : M) : Eta := fun b => if b = a then some m else η b
theorem eup_same {η : Eta} {a : Addr} {m : M} : eup η a m a = some m := by unfold eup; rw [if_pos rfl]
theorem eup_ne {η : Eta} {a b : Addr} {m : M} (h : b ≠ a) : eup η a m b = η b := by unfold eup; rw [if_neg h]
def edel (η : Eta) (a : Addr) : Eta := fun b => if b = a then none else η b
abbrev DSt := List (Option D)

/-- a text that the model lays out -/
structure SOk (x : Str) : Prop where
  cp : PyData.strOk x = true
  len : x.length ≤ sizeLine

mutual
inductive Rep (K : PySem.W.Frag) (R : Addr → Prop) (η : Eta) (H : Hp) : V → D → Prop
  | non : Rep K R η H .non .non
  | bl (b : Bool) : Rep K R η H (.bl b) (.bl b)
  | int (i : Int) : Rep K R η H (.int i) (.int i)
  | str {x : Str} : SOk x → Rep K R η H (.str x) (.str x)
  | ty (n : String) : Rep K R η H (.ty n) (.ty n)
  | ref (a : Addr) : Rep K R η H (.ref a) (.ref a)
  | lst {a : Addr} {xs : List V} {ds : List D} : Rd H a (.lst xs) → η a = none → ¬ R a → Reps K R η H xs ds → Rep K R η H (.ref a) (.lst ds)
  | klst {a : Addr} {xs : List V} {ds : List D} : Rd H a (.lst xs) → η a = none → ¬ R a → Reps K R η H xs ds → Rep K R η H (.ref a) (.klst ds)
  | klstK {a : Addr} {xs : List V} {ds : List D} {o : Obj} {its : Array Value} {n : Nat} : K.lookup a = some o → o.cls = .type "list" → o.dict = none → o.data = .seq its n → its.size ≤ sizeLine → Vals xs its.toList → Reps K R η H xs ds → Rep K R η H (.ref a) (.klst ds)
  | tup {a : Addr} {xs : List V} {ds : List D} : Rd H a (.tup xs) → η a = none → ¬ R a → Reps K R η H xs ds → Rep K R η H (.ref a) (.tup ds)
  | tupK {a : Addr} {xs : List V} {ds : List D} {o : Obj} {its : Array Value} {n : Nat} : K.lookup a = some o → o.cls = .type "tuple" → o.data = .seq its n → its.size ≤ sizeLine → Vals xs its.toList → Reps K R η H xs ds → Rep K R η H (.ref a) (.tup ds)
  | obj {a C dx : Addr} {fs : List (Str × V)} {ns : List Str} {ds : List D} : H a = some (.ins C dx fs) → η a = none → ¬ R a → fs.map (·.1) = ns → Reps K R η H (fs.map (·.2)) ds → Rep K R η H (.ref a) (.obj C ns ds)
  | dct {a : Addr} {kvs : List (Key × V)} {ks : List Key} {ds : List D} : Rd H a (.dK kvs) → η a = none → ¬ R a → kvs.map (·.1) = ks → Reps K R η H (kvs.map (·.2)) ds → Rep K R η H (.ref a) (.dct ks ds)
inductive Reps (K : PySem.W.Frag) (R : Addr → Prop) (η : Eta) (H : Hp) : List V → List D → Prop
  | nil : Reps K R η H [] []
  | cons {v : V} {vs : List V} {d : D} {ds : List D} : Rep K R η H v d → Reps K R η H vs ds → Reps K R η H (v :: vs) (d :: ds)
end

/-- how the state goes on: what is no mutable object stays; what becomes mutable is new -/
structure Ext (η : Eta) (H : Hp) (η' : Eta) (H' : Hp) : Prop where
  keep : ∀ a o, η a = none → H a = some o → H' a = some o
  dom : ∀ a, η' a ≠ none → η a ≠ none ∨ H a = none
theorem Ext.refl (η : Eta) (H : Hp) : Ext η H η H := ⟨fun _ _ _ h => h, fun _ h => .inl h⟩
theorem Ext.trans {η η1 η2 : Eta} {H H1 H2 : Hp} (a : Ext η H η1 H1) (b : Ext η1 H1 η2 H2) : Ext η H η2 H2 where
  keep := fun x o n h => by
    have h1 := a.keep x o n h
    refine b.keep x o ?_ h1
    cases e : η1 x with
    | none => rfl
    | some m =>
      rcases a.dom x (by rw [e]; simp) with z | z
      · exact absurd n z
      · rw [h] at z; cases z
  dom := fun x h => by
    rcases b.dom x h with z | z
    · exact a.dom x z
    · cases e : η x with
      | some m => exact .inl (by simp)
      | none =>
        refine .inr ?_
        cases q : H x with
        | none => rfl
        | some o => have := a.keep x o e q; rw [z] at this; cases this
/-- only new objects were laid -/
theorem Ext.ex {η : Eta} {H H' : Hp} (h : ∀ a o, H a = some o → H' a = some o) : Ext η H η H' := ⟨fun a o _ e => h a o e, fun _ h => .inl h⟩
theorem Ext.new {η : Eta} {H : Hp} {p : Addr} {o : HO} (h : H p = none) : Ext η H η (upd H p o) := Ext.ex fun a u e => by
  rw [upd_ne (ne_of_none e h)]; exact e
theorem Ext.none_of {η η' : Eta} {H H' : Hp} {a : Addr} {o : HO} (e : Ext η H η' H') (n : η a = none) (h : H a = some o) : η' a = none := by
  cases q : η' a with
  | none => rfl
  | some m =>
    rcases e.dom a (by rw [q]; simp) with z | z
    · exact absurd n z
    · rw [h] at z; cases z
theorem Ext.rd {η η' : Eta} {H H' : Hp} {a : Addr} {u : HO} (e : Ext η H η' H') (n : η a = none) (h : Rd H a u) : Rd H' a u ∧ η' a = none := by
  rcases h with h | ⟨o, h⟩
  · exact ⟨.inl (e.keep a _ n h), e.none_of n h⟩
  · exact ⟨.inr ⟨o, e.keep a _ n h⟩, e.none_of n h⟩

mutual
theorem Rep.mono {K : PySem.W.Frag} {R : Addr → Prop} {η η' : Eta} {H H' : Hp} (e : Ext η H η' H') : ∀ (d : D) (v : V), Rep K R η H v d → Rep K R η' H' v d
  | .non, _, h => by cases h; exact .non
  | .bl _, _, h => by cases h; exact .bl _
  | .int _, _, h => by cases h; exact .int _
  | .str _, _, h => by cases h with | str a => exact .str a
  | .ty _, _, h => by cases h; exact .ty _
  | .ref _, _, h => by cases h; exact .ref _
  | .lst ds, _, h => by
    cases h with
    | lst a b r c => obtain ⟨a', b'⟩ := e.rd b a; exact .lst a' b' r (Reps.mono e ds _ c)
  | .klst ds, _, h => by
    cases h with
    | klst a b r c => obtain ⟨a', b'⟩ := e.rd b a; exact .klst a' b' r (Reps.mono e ds _ c)
    | klstK a1 a2 a3 a4 a5 a6 c => exact .klstK a1 a2 a3 a4 a5 a6 (Reps.mono e ds _ c)
  | .tup ds, _, h => by
    cases h with
    | tup a b r c => obtain ⟨a', b'⟩ := e.rd b a; exact .tup a' b' r (Reps.mono e ds _ c)
    | tupK a1 a2 a3 a4 a5 c => exact .tupK a1 a2 a3 a4 a5 (Reps.mono e ds _ c)
  | .obj C ns ds, _, h => by
    cases h with
    | obj a b r c d => exact .obj (e.keep _ _ b a) (e.none_of b a) r c (Reps.mono e ds _ d)
  | .dct ks ds, _, h => by
    cases h with
    | dct a b r c d => obtain ⟨a', b'⟩ := e.rd b a; exact .dct a' b' r c (Reps.mono e ds _ d)
theorem Reps.mono {K : PySem.W.Frag} {R : Addr → Prop} {η η' : Eta} {H H' : Hp} (e : Ext η H η' H') : ∀ (ds : List D) (vs : List V), Reps K R η H vs ds → Reps K R η' H' vs ds
  | [], _, h => by cases h; exact .nil
  | d :: ds, _, h => by
    cases h with
    | cons a b => exact .cons (Rep.mono e d _ a) (Reps.mono e ds _ b)
end
theorem Rep.up {K : PySem.W.Frag} {R : Addr → Prop} {η η' : Eta} {H H' : Hp} {v : V} {d : D} (h : Rep K R η H v d) (e : Ext η H η' H') : Rep K R η' H' v d := Rep.mono e d v h
theorem Reps.up {K : PySem.W.Frag} {R : Addr → Prop} {η η' : Eta} {H H' : Hp} {v : List V} {d : List D} (h : Reps K R η H v d) (e : Ext η H η' H') : Reps K R η' H' v d := Reps.mono e d v h

section
variable {K : PySem.W.Frag} {R : Addr → Prop} {η η' : Eta} {H H' : Hp}
theorem Reps.length : ∀ {vs : List V} {ds : List D}, Reps K R η H vs ds → vs.length = ds.length
  | _, _, .nil => rfl
  | _, _, .cons _ t => congrArg (· + 1) (Reps.length t)
theorem Reps.get : ∀ {vs : List V} {ds : List D} {i : Nat} {d : D}, Reps K R η H vs ds → ds[i]? = some d → ∃ v, vs[i]? = some v ∧ Rep K R η H v d
  | _, _, _, _, .nil, e => by simp at e
  | _, _, 0, _, .cons r _, e => by simp at e; subst e; exact ⟨_, rfl, r⟩
  | _, _, i + 1, d, .cons _ t, e => by
    obtain ⟨v, h1, h2⟩ := Reps.get (i := i) (d := d) t (by simpa using e)
    exact ⟨v, by simpa using h1, h2⟩
theorem Reps.getv : ∀ {vs : List V} {ds : List D} {i : Nat} {v : V}, Reps K R η H vs ds → vs[i]? = some v → ∃ d, ds[i]? = some d ∧ Rep K R η H v d
  | _, _, _, _, .nil, e => by simp at e
  | _, _, 0, _, .cons r _, e => by simp at e; subst e; exact ⟨_, rfl, r⟩
  | _, _, i + 1, d, .cons _ t, e => by
    obtain ⟨v, h1, h2⟩ := Reps.getv (i := i) (v := d) t (by simpa using e)
    exact ⟨v, by simpa using h1, h2⟩
theorem Reps.append : ∀ {vs ws : List V} {ds es : List D}, Reps K R η H vs ds → Reps K R η H ws es → Reps K R η H (vs ++ ws) (ds ++ es)
  | _, _, _, _, .nil, s => s
  | _, _, _, _, .cons r t, s => .cons r (Reps.append t s)
theorem Reps.take : ∀ {vs : List V} {ds : List D} (n : Nat), Reps K R η H vs ds → Reps K R η H (vs.take n) (ds.take n)
  | _, _, 0, _ => .nil
  | _, _, _ + 1, .nil => .nil
  | _, _, n + 1, .cons r t => .cons r (Reps.take n t)
theorem Reps.drop : ∀ {vs : List V} {ds : List D} (n : Nat), Reps K R η H vs ds → Reps K R η H (vs.drop n) (ds.drop n)
  | _, _, 0, r => r
  | _, _, _ + 1, .nil => .nil
  | _, _, n + 1, .cons _ t => Reps.drop n t
theorem Reps.set {v : V} {d : D} (r : Rep K R η H v d) : ∀ {vs : List V} {ds : List D} (i : Nat), Reps K R η H vs ds → Reps K R η H (vs.set i v) (ds.set i d)
  | _, _, _, .nil => .nil
  | _, _, 0, .cons _ t => .cons r t
  | _, _, i + 1, .cons q t => .cons q (Reps.set r i t)
theorem Reps.reverse {vs : List V} {ds : List D} (h : Reps K R η H vs ds) : Reps K R η H vs.reverse ds.reverse := by
  induction ds generalizing vs with
  | nil => cases h; exact .nil
  | cons d ds ih =>
    cases h with
    | cons a b => rw [List.reverse_cons, List.reverse_cons]; exact (ih b).append (.cons a .nil)
theorem Reps.nil_iff {vs : List V} {ds : List D} (h : Reps K R η H vs ds) : vs = [] ↔ ds = [] := by
  cases h <;> simp
theorem Reps.ints : ∀ {ns : List Int} {vs : List V}, Reps K R η H vs (ns.map D.int) → vs = ns.map V.int
  | [], _, h => by cases h; rfl
  | n :: ns, _, h => by
    cases h with
    | cons a b => cases a; rw [Reps.ints b]; rfl
theorem Reps.of_ints : ∀ (ns : List Int), Reps K R η H (ns.map V.int) (ns.map D.int)
  | [] => .nil
  | n :: ns => .cons (.int n) (Reps.of_ints ns)
theorem Reps.bls : ∀ {ns : List Bool} {vs : List V}, Reps K R η H vs (ns.map D.bl) → vs = ns.map V.bl
  | [], _, h => by cases h; rfl
  | n :: ns, _, h => by
    cases h with
    | cons a b => cases a; rw [Reps.bls b]; rfl
theorem Reps.strs : ∀ {ns : List Str} {vs : List V}, Reps K R η H vs (ns.map D.str) → vs = ns.map V.str
  | [], _, h => by cases h; rfl
  | n :: ns, _, h => by
    cases h with
    | cons a b => cases a; rw [Reps.strs b]; rfl
theorem Reps.of_strs : ∀ (ns : List Str), (∀ x ∈ ns, SOk x) → Reps K R η H (ns.map V.str) (ns.map D.str)
  | [], _ => .nil
  | n :: ns, h => .cons (.str (h n List.mem_cons_self)) (Reps.of_strs ns fun x hx => h x (List.mem_cons_of_mem _ hx))
/-- a list, a tuple that is data can be read -/
theorem Rep.sqL {v : V} {ds : List D} (h : Rep K R η H v (.lst ds)) : ∃ a xs, v = .ref a ∧ SqL K H a xs ∧ Reps K R η H xs ds := by
  cases h with
  | lst a b r c => exact ⟨_, _, rfl, .inl a, c⟩
theorem Rep.rdL {v : V} {ds : List D} (h : Rep K R η H v (.lst ds)) : ∃ a xs, v = .ref a ∧ Rd H a (.lst xs) ∧ Reps K R η H xs ds := by
  cases h with
  | lst a b r c => exact ⟨_, _, rfl, a, c⟩
theorem Rep.sqT {v : V} {ds : List D} (h : Rep K R η H v (.tup ds)) : ∃ a xs, v = .ref a ∧ SqT K H a xs ∧ Reps K R η H xs ds := by
  cases h with
  | tup a b r c => exact ⟨_, _, rfl, .inl a, c⟩
  | tupK a1 a2 a3 a4 a5 c => exact ⟨_, _, rfl, .inr ⟨_, _, _, a1, a2, a3, a4, a5⟩, c⟩
end

/-- a mutable object as it stands -/
def MOk (K : PySem.W.Frag) (R : Addr → Prop) (η : Eta) (H : Hp) (a : Addr) : M → Prop
  | .lst ds => ∃ xs, H a = some (.lst xs) ∧ Reps K R η H xs ds
  | .ins C ns ds => ∃ dx fs, H a = some (.ins C dx fs) ∧ fs.map (·.1) = ns ∧ Reps K R η H (fs.map (·.2)) ds
  | .dct ks ds => ∃ kvs, H a = some (.dK kvs) ∧ kvs.map (·.1) = ks ∧ Reps K R η H (kvs.map (·.2)) ds
/-- the mutable objects stand; what is kept back stands and is none of them -/
structure Lk (K : PySem.W.Frag) (R : Addr → Prop) (η : Eta) (H : Hp) : Prop where
  m : ∀ a m, η a = some m → MOk K R η H a m
  r : ∀ a, R a → H a ≠ none ∧ η a = none
structure Sl (K : PySem.W.Frag) (R : Addr → Prop) (η : Eta) (H : Hp) (δ : DSt) (σ : L2.St) : Prop where
  len : σ.length = δ.length
  at_ : ∀ (i : Nat) (d : D), δ[i]? = some (some d) → ∃ v, σ[i]? = some (some v) ∧ Rep K R η H v d
section
variable {K : PySem.W.Frag} {R : Addr → Prop} {η η' : Eta} {H H' : Hp} {δ : DSt} {σ : L2.St}
theorem Sl.up (s : Sl K R η H δ σ) (e : Ext η H η' H') : Sl K R η' H' δ σ := ⟨s.len, fun i d h => let ⟨v, a, b⟩ := s.at_ i d h; ⟨v, a, b.up e⟩⟩
theorem Sl.set {v : V} {d : D} (s : Sl K R η H δ σ) (r : Rep K R η H v d) (i : Nat) : Sl K R η H (δ.set i (some d)) (σ.set i (some v)) := by
  refine ⟨by simp [s.len], fun j d' h => ?_⟩
  by_cases e : i = j
  · subst e
    by_cases l : i < δ.length
    · rw [List.getElem?_set_self l] at h
      cases h
      exact ⟨v, by rw [List.getElem?_set_self (by rw [s.len]; exact l)], r⟩
    · rw [List.getElem?_eq_none (by simpa using l)] at h; cases h
  · rw [List.getElem?_set_ne e] at h
    obtain ⟨w, h1, h2⟩ := s.at_ j d' h
    exact ⟨w, by rw [List.getElem?_set_ne e]; exact h1, h2⟩
theorem Sl.setv {v : V} (s : Sl K R η H δ σ) (i : Nat) : Sl K R η H (δ.set i none) (σ.set i (some v)) := by
  refine ⟨by simp [s.len], fun j d' h => ?_⟩
  by_cases e : i = j
  · subst e
    by_cases l : i < δ.length
    · rw [List.getElem?_set_self l] at h; cases h
    · rw [List.getElem?_eq_none (by simpa using l)] at h; cases h
  · rw [List.getElem?_set_ne e] at h
    obtain ⟨w, h1, h2⟩ := s.at_ j d' h
    exact ⟨w, by rw [List.getElem?_set_ne e]; exact h1, h2⟩
theorem Lk.dom (l : Lk K R η H) {a : Addr} (h : η a ≠ none) : H a ≠ none := by
  cases e : η a with
  | none => exact absurd e h
  | some m =>
    have := l.m a m e
    cases m with
    | lst ds => obtain ⟨xs, q, _⟩ := this; rw [q]; simp
    | ins C ns ds => obtain ⟨dx, fs, q, _⟩ := this; rw [q]; simp
    | dct ks ds => obtain ⟨kvs, q, _⟩ := this; rw [q]; simp
theorem Lk.free (l : Lk K R η H) {p : Addr} (h : H p = none) : η p = none := by
  cases e : η p with
  | none => rfl
  | some m => exact absurd h (l.dom (by rw [e]; simp))
/-- the mutable objects as they are, the rest goes on -/
theorem MOk.up {a : Addr} {m : M} (h : MOk K R η H a m) (e : Ext η H η' H') (q : ∀ o, H a = some o → H' a = some o) : MOk K R η' H' a m := by
  cases m with
  | lst ds => obtain ⟨xs, a, b⟩ := h; exact ⟨xs, q _ a, b.up e⟩
  | ins C ns ds => obtain ⟨dx, fs, a, b, c⟩ := h; exact ⟨dx, fs, q _ a, b, c.up e⟩
  | dct ks ds => obtain ⟨kvs, a, b, c⟩ := h; exact ⟨kvs, q _ a, b, c.up e⟩
theorem Lk.ex (l : Lk K R η H) (h : ∀ a o, H a = some o → H' a = some o) : Lk K R η H' := ⟨fun a m e => (l.m a m e).up (Ext.ex h) (h a), fun a ra => by
  obtain ⟨h1, h2⟩ := l.r a ra
  refine ⟨?_, h2⟩
  cases q : H a with
  | none => exact absurd q h1
  | some o => rw [h a o q]; simp⟩
theorem Lk.nr (l : Lk K R η H) {p : Addr} (h : H p = none) : ¬ R p := fun z => (l.r p z).1 h
theorem Lk.nrm (l : Lk K R η H) {p : Addr} (h : η p ≠ none) : ¬ R p := fun z => h (l.r p z).2
theorem new_ex {p : Addr} {o : HO} (h : H p = none) : ∀ a u, H a = some u → upd H p o a = some u := fun a u e => by rw [upd_ne (ne_of_none e h)]; exact e
theorem Lk.new {p : Addr} {o : HO} (l : Lk K R η H) (h : H p = none) : Lk K R η (upd H p o) := l.ex (new_ex h)
/-- a new mutable object -/
theorem Ext.newM {p : Addr} {o : HO} {m : M} (h : H p = none) : Ext η H (eup η p m) (upd H p o) := by
  refine ⟨fun a u _ e => new_ex h a u e, fun a q => ?_⟩
  by_cases e : a = p
  · subst e; exact .inr h
  · rw [eup_ne e] at q; exact .inl q
theorem Lk.newM {p : Addr} {o : HO} {m : M} (l : Lk K R η H) (h : H p = none) (r : MOk K R (eup η p m) (upd H p o) p m) : Lk K R (eup η p m) (upd H p o) := by
  refine ⟨fun a u e => ?_, fun a ra => ?_⟩
  · by_cases q : a = p
    · subst q; rw [eup_same] at e; cases e; exact r
    · rw [eup_ne q] at e
      exact (l.m a u e).up (Ext.newM h) (new_ex h a)
  · have ne : a ≠ p := by rintro rfl; exact l.nr h ra
    rw [upd_ne ne, eup_ne ne]
    exact l.r a ra
/-- a mutable object is written -/
theorem Ext.wr {p : Addr} {o : HO} {m : M} (h : η p ≠ none) : Ext η H (eup η p m) (upd H p o) := by
  refine ⟨fun a u n e => ?_, fun a q => ?_⟩
  · rw [upd_ne (by rintro rfl; exact h n)]; exact e
  · by_cases e : a = p
    · subst e; exact .inl h
    · rw [eup_ne e] at q; exact .inl q
theorem Lk.wr {p : Addr} {o : HO} {m : M} (l : Lk K R η H) (h : η p ≠ none) (r : MOk K R (eup η p m) (upd H p o) p m) : Lk K R (eup η p m) (upd H p o) := by
  refine ⟨fun a u e => ?_, fun a ra => ?_⟩
  · by_cases q : a = p
    · subst q; rw [eup_same] at e; cases e; exact r
    · rw [eup_ne q] at e
      exact (l.m a u e).up (Ext.wr h) (fun o z => by rw [upd_ne q]; exact z)
  · have ne : a ≠ p := by rintro rfl; exact l.nrm h ra
    rw [upd_ne ne, eup_ne ne]
    exact l.r a ra
/-- one more address is kept back, a new one -/
def rup (R : Addr → Prop) (p : Addr) : Addr → Prop := fun a => a = p ∨ R a
end
mutual
theorem Rep.back {K : PySem.W.Frag} {R : Addr → Prop} {η : Eta} {H H' : Hp} {p : Addr} (hp : H p = none) (e : Ext η H η H') : ∀ (d : D) (v : V), Rep K R η H v d → Rep K (rup R p) η H' v d
  | .non, _, h => by cases h; exact .non
  | .bl _, _, h => by cases h; exact .bl _
  | .int _, _, h => by cases h; exact .int _
  | .str _, _, h => by cases h with | str a => exact .str a
  | .ty _, _, h => by cases h; exact .ty _
  | .ref _, _, h => by cases h; exact .ref _
  | .lst ds, _, h => by
    cases h with
    | lst a b r c => exact .lst (e.rd b a).1 b (fun z => by rcases z with z | z; (· subst z; rcases a with a | ⟨o, a⟩ <;> (rw [hp] at a; cases a)); exact r z) (Reps.back hp e ds _ c)
  | .klst ds, _, h => by
    cases h with
    | klst a b r c => exact .klst (e.rd b a).1 b (fun z => by rcases z with z | z; (· subst z; rcases a with a | ⟨o, a⟩ <;> (rw [hp] at a; cases a)); exact r z) (Reps.back hp e ds _ c)
    | klstK a1 a2 a3 a4 a5 a6 c => exact .klstK a1 a2 a3 a4 a5 a6 (Reps.back hp e ds _ c)
  | .tup ds, _, h => by
    cases h with
    | tup a b r c => exact .tup (e.rd b a).1 b (fun z => by rcases z with z | z; (· subst z; rcases a with a | ⟨o, a⟩ <;> (rw [hp] at a; cases a)); exact r z) (Reps.back hp e ds _ c)
    | tupK a1 a2 a3 a4 a5 c => exact .tupK a1 a2 a3 a4 a5 (Reps.back hp e ds _ c)
  | .obj C ns ds, _, h => by
    cases h with
    | obj a b r c d => exact .obj (e.keep _ _ b a) b (fun z => by rcases z with z | z; (· subst z; rw [hp] at a; cases a); exact r z) c (Reps.back hp e ds _ d)
  | .dct ks ds, _, h => by
    cases h with
    | dct a b r c d => exact .dct (e.rd b a).1 b (fun z => by rcases z with z | z; (· subst z; rcases a with a | ⟨o, a⟩ <;> (rw [hp] at a; cases a)); exact r z) c (Reps.back hp e ds _ d)
theorem Reps.back {K : PySem.W.Frag} {R : Addr → Prop} {η : Eta} {H H' : Hp} {p : Addr} (hp : H p = none) (e : Ext η H η H') : ∀ (ds : List D) (vs : List V), Reps K R η H vs ds → Reps K (rup R p) η H' vs ds
  | [], _, h => by cases h; exact .nil
  | d :: ds, _, h => by
    cases h with
    | cons a b => exact .cons (Rep.back hp e d _ a) (Reps.back hp e ds _ b)
end
mutual
/-- what is kept back may change, and be set free -/
theorem Rep.forth {K : PySem.W.Frag} {R : Addr → Prop} {η : Eta} {H H' : Hp} {p : Addr} (e : ∀ a o, a ≠ p → H a = some o → H' a = some o) : ∀ (d : D) (v : V), Rep K (rup R p) η H v d → Rep K R η H' v d ∧ Rep K (rup R p) η H' v d
  | .non, _, h => by cases h; exact ⟨.non, .non⟩
  | .bl _, _, h => by cases h; exact ⟨.bl _, .bl _⟩
  | .int _, _, h => by cases h; exact ⟨.int _, .int _⟩
  | .str _, _, h => by cases h with | str a => exact ⟨.str a, .str a⟩
  | .ty _, _, h => by cases h; exact ⟨.ty _, .ty _⟩
  | .ref _, _, h => by cases h; exact ⟨.ref _, .ref _⟩
  | .lst ds, _, h => by
    cases h with
    | @lst a xs _ q b r c =>
      have q' : Rd H' a (.lst xs) := by rcases q with q | ⟨o, q⟩; exact .inl (e _ _ (fun z => r (.inl z)) q); exact .inr ⟨o, e _ _ (fun z => r (.inl z)) q⟩
      exact ⟨.lst q' b (fun z => r (.inr z)) (Reps.forth e ds _ c).1, .lst q' b r (Reps.forth e ds _ c).2⟩
  | .klst ds, _, h => by
    cases h with
    | @klst a xs _ q b r c =>
      have q' : Rd H' a (.lst xs) := by rcases q with q | ⟨o, q⟩; exact .inl (e _ _ (fun z => r (.inl z)) q); exact .inr ⟨o, e _ _ (fun z => r (.inl z)) q⟩
      exact ⟨.klst q' b (fun z => r (.inr z)) (Reps.forth e ds _ c).1, .klst q' b r (Reps.forth e ds _ c).2⟩
    | klstK a1 a2 a3 a4 a5 a6 c => exact ⟨.klstK a1 a2 a3 a4 a5 a6 (Reps.forth e ds _ c).1, .klstK a1 a2 a3 a4 a5 a6 (Reps.forth e ds _ c).2⟩
  | .tup ds, _, h => by
    cases h with
    | @tup a xs _ q b r c =>
      have q' : Rd H' a (.tup xs) := by rcases q with q | ⟨o, q⟩; exact .inl (e _ _ (fun z => r (.inl z)) q); exact .inr ⟨o, e _ _ (fun z => r (.inl z)) q⟩
      exact ⟨.tup q' b (fun z => r (.inr z)) (Reps.forth e ds _ c).1, .tup q' b r (Reps.forth e ds _ c).2⟩
    | tupK a1 a2 a3 a4 a5 c => exact ⟨.tupK a1 a2 a3 a4 a5 (Reps.forth e ds _ c).1, .tupK a1 a2 a3 a4 a5 (Reps.forth e ds _ c).2⟩
  | .obj C ns ds, _, h => by
    cases h with
    | obj q b r c d => exact ⟨.obj (e _ _ (fun z => r (.inl z)) q) b (fun z => r (.inr z)) c (Reps.forth e ds _ d).1, .obj (e _ _ (fun z => r (.inl z)) q) b r c (Reps.forth e ds _ d).2⟩
  | .dct ks ds, _, h => by
    cases h with
    | @dct a kvs _ _ q b r c d =>
      have q' : Rd H' a (.dK kvs) := by rcases q with q | ⟨o, q⟩; exact .inl (e _ _ (fun z => r (.inl z)) q); exact .inr ⟨o, e _ _ (fun z => r (.inl z)) q⟩
      exact ⟨.dct q' b (fun z => r (.inr z)) c (Reps.forth e ds _ d).1, .dct q' b r c (Reps.forth e ds _ d).2⟩
theorem Reps.forth {K : PySem.W.Frag} {R : Addr → Prop} {η : Eta} {H H' : Hp} {p : Addr} (e : ∀ a o, a ≠ p → H a = some o → H' a = some o) : ∀ (ds : List D) (vs : List V), Reps K (rup R p) η H vs ds → Reps K R η H' vs ds ∧ Reps K (rup R p) η H' vs ds
  | [], _, h => by cases h; exact ⟨.nil, .nil⟩
  | d :: ds, _, h => by
    cases h with
    | cons a b => exact ⟨.cons (Rep.forth e d _ a).1 (Reps.forth e ds _ b).1, .cons (Rep.forth e d _ a).2 (Reps.forth e ds _ b).2⟩
end
section
variable {K : PySem.W.Frag} {R : Addr → Prop} {η : Eta} {H H' : Hp} {p : Addr} {δ : DSt} {σ : L2.St}
theorem MOk.back {a : Addr} {m : M} (hp : H p = none) (e : Ext η H η H') (k : ∀ o, H a = some o → H' a = some o) (h : MOk K R η H a m) : MOk K (rup R p) η H' a m := by
  cases m with
  | lst ds => obtain ⟨xs, a, b⟩ := h; exact ⟨xs, k _ a, Reps.back hp e _ _ b⟩
  | ins C ns ds => obtain ⟨dx, fs, a, b, c⟩ := h; exact ⟨dx, fs, k _ a, b, Reps.back hp e _ _ c⟩
  | dct ks ds => obtain ⟨kvs, a, b, c⟩ := h; exact ⟨kvs, k _ a, b, Reps.back hp e _ _ c⟩
theorem MOk.forth {a : Addr} {m : M} (e : ∀ a o, a ≠ p → H a = some o → H' a = some o) (ne : a ≠ p) (h : MOk K (rup R p) η H a m) : MOk K R η H' a m ∧ MOk K (rup R p) η H' a m := by
  cases m with
  | lst ds => obtain ⟨xs, a, b⟩ := h; exact ⟨⟨xs, e _ _ ne a, (Reps.forth e _ _ b).1⟩, ⟨xs, e _ _ ne a, (Reps.forth e _ _ b).2⟩⟩
  | ins C ns ds => obtain ⟨dx, fs, a, b, c⟩ := h; exact ⟨⟨dx, fs, e _ _ ne a, b, (Reps.forth e _ _ c).1⟩, ⟨dx, fs, e _ _ ne a, b, (Reps.forth e _ _ c).2⟩⟩
  | dct ks ds => obtain ⟨kvs, a, b, c⟩ := h; exact ⟨⟨kvs, e _ _ ne a, b, (Reps.forth e _ _ c).1⟩, ⟨kvs, e _ _ ne a, b, (Reps.forth e _ _ c).2⟩⟩
/-- a new object is laid and kept back -/
theorem Lk.back {o : HO} (l : Lk K R η H) (hp : H p = none) : Lk K (rup R p) η (upd H p o) := by
  refine ⟨fun a m e => (l.m a m e).back hp (Ext.new hp) (new_ex hp a), fun a ra => ?_⟩
  rcases ra with rfl | ra
  · exact ⟨by rw [upd_same]; simp, l.free hp⟩
  · have ne : a ≠ p := by rintro rfl; exact l.nr hp ra
    rw [upd_ne ne]
    exact l.r a ra
theorem Sl.back {o : HO} (s : Sl K R η H δ σ) (hp : H p = none) : Sl K (rup R p) η (upd H p o) δ σ :=
  ⟨s.len, fun i d h => let ⟨v, a, b⟩ := s.at_ i d h; ⟨v, a, Rep.back hp (Ext.new hp) _ _ b⟩⟩
theorem ne_ex {o : HO} : ∀ a u, a ≠ p → H a = some u → upd H p o a = some u := fun a u ne e => by rw [upd_ne ne]; exact e
/-- what is kept back is written -/
theorem Lk.put {o : HO} (l : Lk K (rup R p) η H) : Lk K (rup R p) η (upd H p o) := by
  refine ⟨fun a m e => ((l.m a m e).forth ne_ex (by rintro rfl; rw [(l.r a (.inl rfl)).2] at e; cases e)).2, fun a ra => ?_⟩
  by_cases ne : a = p
  · subst ne; exact ⟨by rw [upd_same]; simp, (l.r a ra).2⟩
  · rw [upd_ne ne]; exact l.r a ra
theorem Sl.put {o : HO} (s : Sl K (rup R p) η H δ σ) : Sl K (rup R p) η (upd H p o) δ σ := ⟨s.len, fun i d h => let ⟨v, a, b⟩ := s.at_ i d h; ⟨v, a, (Rep.forth ne_ex _ _ b).2⟩⟩
/-- it is set free -/
theorem Lk.forth (l : Lk K (rup R p) η H) : Lk K R η H := ⟨fun a m e => ((l.m a m e).forth (fun _ _ _ h => h) (by rintro rfl; rw [(l.r a (.inl rfl)).2] at e; cases e)).1, fun a ra => l.r a (.inr ra)⟩
theorem Sl.forth (s : Sl K (rup R p) η H δ σ) : Sl K R η H δ σ := ⟨s.len, fun i d h => let ⟨v, a, b⟩ := s.at_ i d h; ⟨v, a, (Rep.forth (fun _ _ _ h => h) _ _ b).1⟩⟩
end
end DL
end
section
set_option Elab.async false
set_option linter.all false
set_option autoImplicit false
set_option maxRecDepth 100000
set_option maxHeartbeats 4000000
/-! DL1: judgements over data, expressions. -/
namespace DL
open PySem PySem.Spec PyProof.Rows L2

abbrev Xk := D → Eta → Prop
abbrev DK := D → Eta → Prop
abbrev DE := Xk → DSt → Eta → DK → Prop
abbrev DT := Xk → DSt → Eta → (Bool → Eta → Prop) → Prop
abbrev DA := Xk → DSt → Eta → (List D → Eta → Prop) → Prop
abbrev DO := Xk → DSt → Eta → (Option Int → Eta → Prop) → Prop

/-- an exception as data: an instance of its class with the attributes of its own dict -/
def XRep (K : PySem.W.Frag) (R : Addr → Prop) (η : Eta) (H : Hp) (C : Addr) (od : Option Addr) (x : D) : Prop :=
  ∃ ns ds, x = .obj C ns ds ∧ ((od = none ∧ ns = [] ∧ ds = []) ∨ ∃ d fs, od = some d ∧ H d = some (.xd fs) ∧ η d = none ∧ ¬ R d ∧ fs.map (·.1) = ns ∧ Reps K R η H (fs.map (·.2)) ds)

/-- what follows, over the heap and over data -/
structure Kn (K : PySem.W.Frag) (R : Addr → Prop) (E : XK) (η : Eta) (H : Hp) (Z : Xk) {α β : Type} (Rl : (Addr → Prop) → Eta → Hp → α → β → Prop) (Φ : β → Eta → Prop) (Q : α → Hp → Prop) : Prop where
  ok : ∀ v d H' η', Lk K R η' H' → Ext η H η' H' → Rl R η' H' v d → Φ d η' → Q v H'
  ex : ∀ C od x H' η', Lk K R η' H' → Ext η H η' H' → XRep K R η' H' C od x → Z x η' → E (.ref C) od H'
section
variable {K : PySem.W.Frag} {R : Addr → Prop} {E : XK} {η η1 : Eta} {H H1 : Hp} {Z : Xk} {α β γ ε : Type} {Rl : (Addr → Prop) → Eta → Hp → α → β → Prop} {Φ : β → Eta → Prop} {Q : α → Hp → Prop}
  {Rl' : (Addr → Prop) → Eta → Hp → γ → ε → Prop} {Φ' : ε → Eta → Prop} {Q' : γ → Hp → Prop}
/-- the same exceptions, another end -/
theorem Kn.to (k : Kn K R E η H Z Rl Φ Q) (h : ∀ v d H' η', Lk K R η' H' → Ext η H η' H' → Rl' R η' H' v d → Φ' d η' → Q' v H') : Kn K R E η H Z Rl' Φ' Q' := ⟨h, k.ex⟩
/-- from a later state -/
theorem Kn.at_ (k : Kn K R E η H Z Rl Φ Q) (e : Ext η H η1 H1) : Kn K R E η1 H1 Z Rl Φ Q :=
  ⟨fun v d H' η' l x => k.ok v d H' η' l (e.trans x), fun C od x H' η' l y => k.ex C od x H' η' l (e.trans y)⟩
end

def SoundG (K : PySem.W.Frag) (E : XK) {α β : Type} (Rl : (Addr → Prop) → Eta → Hp → α → β → Prop) (te : L2.St → Hp → (α → Hp → Prop) → Prop) (t : Xk → DSt → Eta → (β → Eta → Prop) → Prop) : Prop :=
  ∀ (R : Addr → Prop) (σ : L2.St) (H : Hp) (δ : DSt) (η : Eta) (Z : Xk) (Φ : β → Eta → Prop) (Q : α → Hp → Prop), Lk K R η H → Sl K R η H δ σ → t Z δ η Φ → Kn K R E η H Z Rl Φ Q → te σ H Q
abbrev REq {α : Type} : (Addr → Prop) → Eta → Hp → α → α → Prop := fun _ _ _ a b => a = b

structure PD (X : Cx) (E : XK) (e : Expr) (te : TE) (t : DE) : Prop where
  pe : PE X e te
  so : SoundG X.K E (Rep X.K) te t
structure PDT (X : Cx) (E : XK) (e : Expr) (tt : TT) (t : DT) : Prop where
  pt : PT X e tt
  so : SoundG X.K E REq tt t
structure PDW (X : Cx) (E : XK) (e : Expr) (tt : TT) (t : DT) : Prop where
  pw : PW X e tt
  so : SoundG X.K E REq tt t
structure PDA (X : Cx) (E : XK) (es : List Expr) (ta : TA) (t : DA) : Prop where
  pa : PA X es ta
  so : SoundG X.K E (Reps X.K) ta t
structure PDO (X : Cx) (E : XK) (e : Option Expr) (to : TO) (t : DO) : Prop where
  po : PO X e to
  so : SoundG X.K E REq to t

section
variable {X : Cx} {E : XK} {a b c e : Expr} {es : List Expr} {ta tb tc te : TE} {da db dc de : DE} {tr : TA} {dr : DA} {pos : Pos}

/-! ### names, constants -/
def dVar (i : Nat) : DE := fun _ δ η Φ => ∃ d, δ[i]? = some (some d) ∧ Φ d η
def dC (d : D) : DE := fun _ _ η Φ => Φ d η
theorem so_var {K : PySem.W.Frag} {i : Nat} : SoundG K E (Rep K) (tVar i) (dVar i) := fun R σ H δ η Z Φ Q l s h k => by
  obtain ⟨d, e, h⟩ := h
  obtain ⟨v, hv, r⟩ := s.at_ i d e
  exact ⟨v, hv, k.ok v d H η l (Ext.refl _ _) r h⟩
theorem so_c {K : PySem.W.Frag} {v : V} {d : D} (r : ∀ R η H, Rep K R η H v d) : SoundG K E (Rep K) (tC v) (dC d) := fun R σ H δ η Z Φ Q l s h k => k.ok v d H η l (Ext.refl _ _) (r R η H) h
theorem pd_var (i : Nat) {x : Str} {pos : Pos} (hN : X.N[i]? = some x := by rfl) (hv : Vis X.env.scope x := by first | exact Or.inl rfl | exact Or.inr (Or.inl rfl) | exact Or.inr (Or.inr rfl)) (hd : (x == ("__debug__" : Str)) = false := by decide)
    (hcd : (x == ("__classdict__" : Str)) = false := by decide) : PD X E (.Name x pos) (tVar i) (dVar i) := ⟨pe_var hN hv hd hcd, so_var⟩
theorem pd_int {i j pos} : PD X E (.Constant (.int i) j pos) (tC (.int i)) (dC (.int i)) := ⟨pe_int, so_c fun _ _ _ => .int i⟩
theorem pd_bl {i j pos} : PD X E (.Constant (.bool i) j pos) (tC (.bl i)) (dC (.bl i)) := ⟨pe_bl, so_c fun _ _ _ => .bl i⟩
theorem pd_non {j pos} : PD X E (.Constant .none j pos) (tC .non) (dC .non) := ⟨pe_non, so_c fun _ _ _ => .non⟩
theorem pd_str {x j pos} (h : SOk x) : PD X E (.Constant (.str x) j pos) (tC (.str x)) (dC (.str x)) := ⟨pe_str, so_c fun _ _ _ => .str h⟩
theorem pd_glob {x : Str} {v : V} {u : Value} {d : D} {pos : Pos} (hg : Gl X x) (hm : X.mg x = some u) (r : RelV v u) (rd : ∀ R η H, Rep X.K R η H v d) (hd : (x == ("__debug__" : Str)) = false := by decide) : PD X E (.Name x pos) (tC v) (dC d) := ⟨pe_glob hg hm r hd, so_c rd⟩
/-- a built-in type's name as a value -/
theorem pd_type {x : Str} {T : String} {pos : Pos} (hg : Gl X x) (hm : X.mg x = none) (hv : bootBuiltins x = some (.type T)) (hn : x ≠ "__name__" := by decide) (hd : (x == ("__debug__" : Str)) = false := by decide) : PD X E (.Name x pos) (tC (.ty T)) (dC (.ty T)) :=
  ⟨pe_bltn hg hm hv rfl hn hd, so_c fun _ _ _ => .ty T⟩

/-! ### operators by values -/
abbrev DR2 := D → D → Eta → DK → Prop
def SoundR2 (K : PySem.W.Frag) (r : R2) (o : DR2) : Prop := ∀ (R : Addr → Prop) (η : Eta) (H : Hp) (x y : V) (dx dy : D) (Φ : DK) (Q : VK), Lk K R η H → Rep K R η H x dx → Rep K R η H y dy → o dx dy η Φ →
  (∀ v d H' η', Lk K R η' H' → Ext η H η' H' → Rep K R η' H' v d → Φ d η' → Q v H') → r x y H Q
structure OpD (X : Cx) (f : Value → Value → Sem Value) (r : R2) (o : DR2) : Prop where
  op : OpR X f r
  so : SoundR2 X.K r o
structure IxD (X : Cx) (r : R2) (o : DR2) : Prop where
  op : IxR X r
  so : SoundR2 X.K r o
def dOp (o : DR2) (da db : DE) : DE := fun Z δ η Φ => da Z δ η fun x η1 => db Z δ η1 fun y η2 => o x y η2 Φ
theorem so_op {K : PySem.W.Frag} {r : R2} {o : DR2} (ho : SoundR2 K r o) (ha : SoundG K E (Rep K) ta da) (hb : SoundG K E (Rep K) tb db) : SoundG K E (Rep K) (tOp r ta tb) (dOp o da db) := fun R σ H δ η Z Φ Q l s h k => by
  refine ha R σ H δ η Z _ _ l s h (k.to fun v1 d1 H1 η1 l1 e1 r1 h1 => ?_)
  refine hb R σ H1 δ η1 Z _ _ l1 (s.up e1) h1 ((k.at_ e1).to fun v2 d2 H2 η2 l2 e2 r2 h2 => ?_)
  exact ho R η2 H2 v1 v2 d1 d2 Φ Q l2 (r1.up e2) r2 h2 fun v d H' η' l' e' r' h' => k.ok v d H' η' l' ((e1.trans e2).trans e') r' h'
theorem pd_op {op : Operator} {r : R2} {o : DR2} (ho : OpD X (binaryOp op) r o) (ha : PD X E a ta da) (hb : PD X E b tb db) : PD X E (.BinOp a op b pos) (tOp r ta tb) (dOp o da db) := ⟨pe_op ho.op ha.pe hb.pe, so_op ho.so ha.so hb.so⟩
theorem pd_cmp {op : CmpOp} {r : R2} {o : DR2} (ho : OpD X (compareOp op) r o) (ha : PD X E a ta da) (hb : PD X E b tb db) (hm : behindInMarks op b = false) : PD X E (.Compare a [op] [b] pos) (tOp r ta tb) (dOp o da db) := ⟨pe_cmpR ho.op ha.pe hb.pe hm, so_op ho.so ha.so hb.so⟩
theorem pd_ix {r : R2} {o : DR2} (ho : IxD X r o) (ha : PD X E a ta da) (hb : PD X E b tb db) (hs : PlainIx b) : PD X E (.Subscript a b pos) (tOp r ta tb) (dOp o da db) := ⟨pe_ix ho.op ha.pe hb.pe hs, so_op ho.so ha.so hb.so⟩

/-- a value as a test -/
def dTest (t : DE) : DT := fun Z δ η Φ => t Z δ η fun d η1 => ∃ k, d = .bl k ∧ Φ k η1
theorem so_test {K : PySem.W.Frag} (ha : SoundG K E (Rep K) ta da) : SoundG K E REq (tTest ta) (dTest da) := fun R σ H δ η Z Φ Q l s h k => by
  refine ha R σ H δ η Z _ _ l s h (k.to fun v1 d1 H1 η1 l1 e1 r1 h1 => ?_)
  obtain ⟨c, rfl, h1⟩ := h1
  cases r1
  exact ⟨c, rfl, k.ok c c H1 η1 l1 e1 rfl h1⟩
theorem so_tB {K : PySem.W.Frag} (ha : SoundG K E (Rep K) ta da) : SoundG K E REq (tB ta) (dTest da) := so_test ha
theorem pdt_cmp {op : CmpOp} {r : R2} {o : DR2} (ho : OpD X (compareOp op) r o) (ha : PD X E a ta da) (hb : PD X E b tb db) (hm : behindInMarks op b = false) : PDT X E (.Compare a [op] [b] pos) (tTest (tOp r ta tb)) (dTest (dOp o da db)) := ⟨pt_cmpR ho.op ha.pe hb.pe hm, so_test (so_op ho.so ha.so hb.so)⟩
theorem pdt_val (h : PD X E e te de) (he : ∀ whole, isTrue e X.env whole = (do let v ← whole; standAt e.pos; holding [v] (truthy v)) := by intro _; rfl) : PDT X E e (tB te) (dTest de) := ⟨pt_val h.pe he, so_tB h.so⟩

/-- is None, is not None -/
def rIsNU : R2 := fun x y H Q => y = .non ∧ Q (.bl (decide (x = .non))) H
def rNotNU : R2 := fun x y H Q => y = .non ∧ Q (.bl (!decide (x = .non))) H
def isNonD : D → Bool | .non => true | _ => false
def oIsN : DR2 := fun x y η Φ => y = .non ∧ Φ (.bl (isNonD x)) η
def oNotN : DR2 := fun x y η Φ => y = .non ∧ Φ (.bl (!isNonD x)) η
theorem isNon_rep {K : PySem.W.Frag} {R : Addr → Prop} {η : Eta} {H : Hp} {x : V} {d : D} (r : Rep K R η H x d) : decide (x = .non) = isNonD d := by
  cases r <;> simp [isNonD]
theorem od_isN : OpD X (compareOp .Is) rIsNU oIsN := ⟨op_isN, fun R η H x y dx dy Φ Q l rx ry h k => by
  obtain ⟨rfl, h⟩ := h
  cases ry
  exact ⟨rfl, k _ _ H η l (Ext.refl _ _) (.bl _) (by rw [isNon_rep rx]; exact h)⟩⟩
theorem od_notN : OpD X (compareOp .IsNot) rNotNU oNotN := ⟨op_notN, fun R η H x y dx dy Φ Q l rx ry h k => by
  obtain ⟨rfl, h⟩ := h
  cases ry
  exact ⟨rfl, k _ _ H η l (Ext.refl _ _) (.bl _) (by rw [isNon_rep rx]; exact h)⟩⟩

/-! ### and, or, not, if -/
def dAnd (t u : DT) : DT := fun Z δ η Φ => t Z δ η fun c η1 => if c = true then u Z δ η1 Φ else Φ false η1
def dOr (t u : DT) : DT := fun Z δ η Φ => t Z δ η fun c η1 => if c = true then Φ true η1 else u Z δ η1 Φ
def dNot (t : DT) : DT := fun Z δ η Φ => t Z δ η fun c η1 => Φ (!c) η1
variable {tt tu : TT} {dt du : DT} {rest : List Expr}
theorem pdw_and1 (ha : PDT X E a tt dt) : PDW X E (.BoolOp .And [a] pos) tt dt := ⟨pw_and1 ha.pt, ha.so⟩
theorem pdw_or1 (ha : PDT X E a tt dt) : PDW X E (.BoolOp .Or [a] pos) tt dt := ⟨pw_or1 ha.pt, ha.so⟩
theorem pdw_and (ha : PDT X E a tt dt) (hb : PDW X E (.BoolOp .And (b :: rest) pos) tu du) : PDW X E (.BoolOp .And (a :: b :: rest) pos) (tAnd tt tu) (dAnd dt du) := ⟨pw_and ha.pt hb.pw, fun R σ H δ η Z Φ Q l s h k => by
  refine ha.so R σ H δ η Z _ _ l s h (k.to fun v1 d1 H1 η1 l1 e1 r1 h1 => ?_)
  obtain rfl : v1 = d1 := r1
  cases v1 with
  | true => exact hb.so R σ H1 δ η1 Z Φ Q l1 (s.up e1) h1 (k.at_ e1)
  | false => exact k.ok false false H1 η1 l1 e1 rfl h1⟩
theorem pdw_or (ha : PDT X E a tt dt) (hb : PDW X E (.BoolOp .Or (b :: rest) pos) tu du) : PDW X E (.BoolOp .Or (a :: b :: rest) pos) (tOr tt tu) (dOr dt du) := ⟨pw_or ha.pt hb.pw, fun R σ H δ η Z Φ Q l s h k => by
  refine ha.so R σ H δ η Z _ _ l s h (k.to fun v1 d1 H1 η1 l1 e1 r1 h1 => ?_)
  obtain rfl : v1 = d1 := r1
  cases v1 with
  | true => exact k.ok true true H1 η1 l1 e1 rfl h1
  | false => exact hb.so R σ H1 δ η1 Z Φ Q l1 (s.up e1) h1 (k.at_ e1)⟩
theorem pdt_w (h : PDW X E e tt dt) : PDT X E e tt dt := ⟨h.pw.pt, h.so⟩
theorem pdt_not (ha : PDT X E a tt dt) : PDT X E (.UnaryOp .Not a pos) (tNot tt) (dNot dt) := ⟨pt_not ha.pt, fun R σ H δ η Z Φ Q l s h k => by
  refine ha.so R σ H δ η Z _ _ l s h (k.to fun v1 d1 H1 η1 l1 e1 r1 h1 => ?_)
  obtain rfl : v1 = d1 := r1
  exact k.ok _ _ H1 η1 l1 e1 rfl h1⟩
/-- and, or, not as values (of bools) -/
def dAndV (da db : DE) : DE := fun Z δ η Φ => da Z δ η fun d η1 => ∃ c, d = .bl c ∧ if c = true then db Z δ η1 Φ else Φ (.bl false) η1
def dOrV (da db : DE) : DE := fun Z δ η Φ => da Z δ η fun d η1 => ∃ c, d = .bl c ∧ if c = true then Φ (.bl true) η1 else db Z δ η1 Φ
def dNotV (da : DE) : DE := fun Z δ η Φ => da Z δ η fun d η1 => ∃ c, d = .bl c ∧ Φ (.bl (!c)) η1
theorem pd_one {op} (h : PD X E a ta da) : PD X E (.BoolOp op [a] pos) ta da := ⟨pe_one h.pe, h.so⟩
theorem pd_and (ha : PD X E a ta da) (hb : PD X E (.BoolOp .And (b :: rest) pos) tb db) : PD X E (.BoolOp .And (a :: b :: rest) pos) (tAndV ta tb) (dAndV da db) := ⟨pe_and ha.pe hb.pe, fun R σ H δ η Z Φ Q l s h k => by
  refine ha.so R σ H δ η Z _ _ l s h (k.to fun v1 d1 H1 η1 l1 e1 r1 h1 => ?_)
  obtain ⟨c, rfl, h1⟩ := h1
  cases r1
  refine ⟨c, rfl, ?_⟩
  cases c with
  | true => exact hb.so R σ H1 δ η1 Z Φ Q l1 (s.up e1) h1 (k.at_ e1)
  | false => exact k.ok _ _ H1 η1 l1 e1 (.bl false) h1⟩
theorem pd_or (ha : PD X E a ta da) (hb : PD X E (.BoolOp .Or (b :: rest) pos) tb db) : PD X E (.BoolOp .Or (a :: b :: rest) pos) (tOrV ta tb) (dOrV da db) := ⟨pe_or ha.pe hb.pe, fun R σ H δ η Z Φ Q l s h k => by
  refine ha.so R σ H δ η Z _ _ l s h (k.to fun v1 d1 H1 η1 l1 e1 r1 h1 => ?_)
  obtain ⟨c, rfl, h1⟩ := h1
  cases r1
  refine ⟨c, rfl, ?_⟩
  cases c with
  | true => exact k.ok _ _ H1 η1 l1 e1 (.bl true) h1
  | false => exact hb.so R σ H1 δ η1 Z Φ Q l1 (s.up e1) h1 (k.at_ e1)⟩
theorem pd_not (ha : PD X E a ta da) : PD X E (.UnaryOp .Not a pos) (tNotV ta) (dNotV da) := ⟨pe_not ha.pe, fun R σ H δ η Z Φ Q l s h k => by
  refine ha.so R σ H δ η Z _ _ l s h (k.to fun v1 d1 H1 η1 l1 e1 r1 h1 => ?_)
  obtain ⟨c, rfl, h1⟩ := h1
  cases r1
  exact ⟨c, rfl, k.ok _ _ H1 η1 l1 e1 (.bl _) h1⟩⟩
def dIf (t : DT) (da db : DE) : DE := fun Z δ η Φ => t Z δ η fun c η1 => if c = true then da Z δ η1 Φ else db Z δ η1 Φ
theorem pd_ifExp (hc : PDT X E c tt dt) (ha : PD X E a ta da) (hb : PD X E b tb db) : PD X E (.IfExp c a b pos) (tIf tt ta tb) (dIf dt da db) := ⟨pe_ifExp hc.pt ha.pe hb.pe, fun R σ H δ η Z Φ Q l s h k => by
  refine hc.so R σ H δ η Z _ _ l s h (k.to fun v1 d1 H1 η1 l1 e1 r1 h1 => ?_)
  obtain rfl : v1 = d1 := r1
  cases v1 with
  | true => exact ha.so R σ H1 δ η1 Z Φ Q l1 (s.up e1) h1 (k.at_ e1)
  | false => exact hb.so R σ H1 δ η1 Z Φ Q l1 (s.up e1) h1 (k.at_ e1)⟩
/-- a op1 b op2 c -/
def dChain (o o' : DR2) (da db dc : DE) : DE := fun Z δ η Φ => da Z δ η fun x η1 => db Z δ η1 fun y η2 => o x y η2 fun z η3 => ∃ k, z = .bl k ∧ if k = true then dc Z δ η3 fun w η4 => o' y w η4 Φ else Φ (.bl false) η3
theorem so_chain {K : PySem.W.Frag} {r r' : R2} {o o' : DR2} (ho : SoundR2 K r o) (ho' : SoundR2 K r' o') (ha : SoundG K E (Rep K) ta da) (hb : SoundG K E (Rep K) tb db) (hc : SoundG K E (Rep K) tc dc) : SoundG K E (Rep K) (tChain r r' ta tb tc) (dChain o o' da db dc) := fun R σ H δ η Z Φ Q l s h k => by
  refine ha R σ H δ η Z _ _ l s h (k.to fun v1 d1 H1 η1 l1 e1 r1 h1 => ?_)
  refine hb R σ H1 δ η1 Z _ _ l1 (s.up e1) h1 ((k.at_ e1).to fun v2 d2 H2 η2 l2 e2 r2 h2 => ?_)
  refine ho R η2 H2 v1 v2 d1 d2 _ _ l2 (r1.up e2) r2 h2 fun v3 d3 H3 η3 l3 e3 r3 h3 => ?_
  obtain ⟨c, rfl, h3⟩ := h3
  cases r3
  refine ⟨c, rfl, ?_⟩
  have e13 := (e1.trans e2).trans e3
  cases c with
  | false => exact k.ok _ _ H3 η3 l3 e13 (.bl false) h3
  | true =>
    refine hc R σ H3 δ η3 Z _ _ l3 (s.up e13) h3 ((k.at_ e13).to fun v4 d4 H4 η4 l4 e4 r4 h4 => ?_)
    exact ho' R η4 H4 v2 v4 d2 d4 Φ Q l4 ((r2.up e3).up e4) r4 h4 fun v d H' η' l' e' r' h' => k.ok v d H' η' l' ((e13.trans e4).trans e') r' h'
theorem pd_chain {op op' : CmpOp} {r r' : R2} {o o' : DR2} (ho : OpD X (compareOp op) r o) (ho' : OpD X (compareOp op') r' o') (ha : PD X E a ta da) (hb : PD X E b tb db) (hc : PD X E c tc dc)
    (hm : lastMarks [op, op'] [b, c] = false := by with_unfolding_all rfl) : PD X E (.Compare a [op, op'] [b, c] pos) (tChain r r' ta tb tc) (dChain o o' da db dc) := ⟨pe_chain ho.op ho'.op ha.pe hb.pe hc.pe hm, so_chain ho.so ho'.so ha.so hb.so hc.so⟩
theorem pdt_chain {op op' : CmpOp} {r r' : R2} {o o' : DR2} (ho : OpD X (compareOp op) r o) (ho' : OpD X (compareOp op') r' o') (ha : PD X E a ta da) (hb : PD X E b tb db) (hc : PD X E c tc dc)
    (hm : lastMarks [op, op'] [b, c] = false := by with_unfolding_all rfl) : PDT X E (.Compare a [op, op'] [b, c] pos) (tTest (tChain r r' ta tb tc)) (dTest (dChain o o' da db dc)) := ⟨pt_chain ho.op ho'.op ha.pe hb.pe hc.pe hm, so_test (so_chain ho.so ho'.so ha.so hb.so hc.so)⟩

/-! ### arguments, displays -/
def dNil : DA := fun _ _ η Φ => Φ [] η
def dCons (de : DE) (dr : DA) : DA := fun Z δ η Φ => de Z δ η fun x η1 => dr Z δ η1 fun xs η2 => Φ (x :: xs) η2
theorem pda_nil : PDA X E [] tNil dNil := ⟨pa_nil, fun R σ H δ η Z Φ Q l s h k => k.ok [] [] H η l (Ext.refl _ _) .nil h⟩
theorem pda_cons (he : PD X E e te de) (hr : PDA X E es tr dr) (hs : starEach (e :: es) X.env = (false, eval e X.env) :: starEach es X.env := by rfl) : PDA X E (e :: es) (tCons te tr) (dCons de dr) := ⟨pa_cons he.pe hr.pa hs, fun R σ H δ η Z Φ Q l s h k => by
  refine he.so R σ H δ η Z _ _ l s h (k.to fun v1 d1 H1 η1 l1 e1 r1 h1 => ?_)
  refine hr.so R σ H1 δ η1 Z _ _ l1 (s.up e1) h1 ((k.at_ e1).to fun v2 d2 H2 η2 l2 e2 r2 h2 => ?_)
  exact k.ok _ _ H2 η2 l2 (e1.trans e2) (.cons (r1.up e2) r2) h2⟩
def dTup (dr : DA) : DE := fun Z δ η Φ => dr Z δ η fun ds η1 => ds.length ≤ sizeLine ∧ Φ (.tup ds) η1
def dLst (dr : DA) : DE := fun Z δ η Φ => dr Z δ η fun ds η1 => ds.length ≤ sizeLine ∧ Φ (.lst ds) η1
/-- a list that will be changed -/
def dLstM (dr : DA) : DE := fun Z δ η Φ => dr Z δ η fun ds η1 => ds.length ≤ sizeLine ∧ ∀ p, η1 p = none → Φ (.ref p) (eup η1 p (.lst ds))
theorem pd_tup {x1} (h : PDA X E es tr dr) : PD X E (.Tuple es x1 pos) (tTup tr) (dTup dr) := ⟨pe_tup h.pa, fun R σ H δ η Z Φ Q l s hw k => by
  refine h.so R σ H δ η Z _ _ l s hw (k.to fun vs ds H1 η1 l1 e1 r1 h1 => ?_)
  refine ⟨by rw [r1.length]; exact h1.1, fun p hp => ?_⟩
  have x := Ext.new (η := η1) (o := .tup vs) hp
  exact k.ok _ _ _ η1 (l1.new hp) (e1.trans x) (.tup (.inl upd_same) (l1.free hp) (l1.nr hp) (r1.up x)) h1.2⟩
theorem pd_lst (h : PDA X E es tr dr) : PD X E (.List es pos) (tLst tr) (dLst dr) := ⟨pe_lst h.pa, fun R σ H δ η Z Φ Q l s hw k => by
  refine h.so R σ H δ η Z _ _ l s hw (k.to fun vs ds H1 η1 l1 e1 r1 h1 => ?_)
  refine ⟨by rw [r1.length]; exact h1.1, fun p hp => ?_⟩
  have x := Ext.new (η := η1) (o := .lst vs) hp
  exact k.ok _ _ _ η1 (l1.new hp) (e1.trans x) (.lst (.inl upd_same) (l1.free hp) (l1.nr hp) (r1.up x)) h1.2⟩
theorem pd_lstM (h : PDA X E es tr dr) : PD X E (.List es pos) (tLst tr) (dLstM dr) := ⟨pe_lst h.pa, fun R σ H δ η Z Φ Q l s hw k => by
  refine h.so R σ H δ η Z _ _ l s hw (k.to fun vs ds H1 η1 l1 e1 r1 h1 => ?_)
  refine ⟨by rw [r1.length]; exact h1.1, fun p hp => ?_⟩
  have x := Ext.newM (η := η1) (o := .lst vs) (m := .lst ds) hp
  exact k.ok _ _ _ _ (l1.newM (m := .lst ds) hp ⟨vs, upd_same, r1.up x⟩) (e1.trans x) (.ref p) (h1.2 p (l1.free hp))⟩

/-! ### slices -/
def dNoPart : DO := fun _ _ η Φ => Φ none η
def dPart (de : DE) : DO := fun Z δ η Φ => de Z δ η fun d η1 => ∃ i, d = .int i ∧ Φ (some i) η1
theorem pdo_none : PDO X E none tNoPart dNoPart := ⟨po_none, fun R σ H δ η Z Φ Q l s h k => k.ok _ _ H η l (Ext.refl _ _) rfl h⟩
theorem pdo_some (h : PD X E e te de) : PDO X E (some e) (tPart te) (dPart de) := ⟨po_some h.pe, fun R σ H δ η Z Φ Q l s hw k => by
  refine h.so R σ H δ η Z _ _ l s hw (k.to fun v1 d1 H1 η1 l1 e1 r1 h1 => ?_)
  obtain ⟨i, rfl, h1⟩ := h1
  cases r1
  exact ⟨i, rfl, k.ok _ _ H1 η1 l1 e1 rfl h1⟩⟩
abbrev RSl := V → Option Int → Option Int → Hp → VK → Prop
abbrev DSl := D → Option Int → Option Int → Eta → DK → Prop
structure SlD (X : Cx) (r : RSl) (o : DSl) : Prop where
  op : SlR X r
  so : ∀ (R : Addr → Prop) (η : Eta) (H : Hp) (x : V) (dx : D) (lo hi : Option Int) (Φ : DK) (Q : VK), Lk X.K R η H → Rep X.K R η H x dx → o dx lo hi η Φ → (∀ v d H' η', Lk X.K R η' H' → Ext η H η' H' → Rep X.K R η' H' v d → Φ d η' → Q v H') → r x lo hi H Q
def dSl (o : DSl) (de : DE) (dl dh : DO) : DE := fun Z δ η Φ => de Z δ η fun x η1 => dl Z δ η1 fun lo η2 => dh Z δ η2 fun hi η3 => o x lo hi η3 Φ
variable {lo hi : Option Expr} {tl th : TO} {dl dh : DO} {p2 : Pos}
theorem pd_slice {r : RSl} {o : DSl} (hr : SlD X r o) (he : PD X E e te de) (hl : PDO X E lo tl dl) (hu : PDO X E hi th dh) : PD X E (.Subscript e (.Slice lo hi none p2) pos) (tSl r te tl th) (dSl o de dl dh) := ⟨pe_slice hr.op he.pe hl.po hu.po, fun R σ H δ η Z Φ Q l s h k => by
  refine he.so R σ H δ η Z _ _ l s h (k.to fun v1 d1 H1 η1 l1 e1 r1 h1 => ?_)
  refine hl.so R σ H1 δ η1 Z _ _ l1 (s.up e1) h1 ((k.at_ e1).to fun v2 d2 H2 η2 l2 e2 r2 h2 => ?_)
  obtain rfl : v2 = d2 := r2
  refine hu.so R σ H2 δ η2 Z _ _ l2 ((s.up e1).up e2) h2 ((k.at_ (e1.trans e2)).to fun v3 d3 H3 η3 l3 e3 r3 h3 => ?_)
  obtain rfl : v3 = d3 := r3
  exact hr.so R η3 H3 v1 d1 v2 v3 Φ Q l3 ((r1.up e2).up e3) h3 fun v d H' η' l' e' r' h' => k.ok v d H' η' l' (((e1.trans e2).trans e3).trans e') r' h'⟩

/-! ### calls of what is built in -/
abbrev RCl := List V → Hp → VK → Prop
abbrev DCl := List D → Eta → DK → Prop
structure ClD (X : Cx) (f : Value) (r : RCl) (o : DCl) : Prop where
  op : CallR X f r
  so : ∀ (R : Addr → Prop) (η : Eta) (H : Hp) (xs : List V) (ds : List D) (Φ : DK) (Q : VK), Lk X.K R η H → Reps X.K R η H xs ds → o ds η Φ → (∀ v d H' η', Lk X.K R η' H' → Ext η H η' H' → Rep X.K R η' H' v d → Φ d η' → Q v H') → r xs H Q
def dCB (o : DCl) (dr : DA) : DE := fun Z δ η Φ => dr Z δ η fun ds η1 => o ds η1 Φ
theorem so_cb {r : RCl} {o : DCl} {f : Value} (hc : ClD X f r o) (ha : PDA X E es tr dr) : SoundG X.K E (Rep X.K) (tCB r tr) (dCB o dr) := fun R σ H δ η Z Φ Q l s h k => by
  refine ha.so R σ H δ η Z _ _ l s h (k.to fun v1 d1 H1 η1 l1 e1 r1 h1 => ?_)
  exact hc.so R η1 H1 v1 d1 Φ Q l1 r1 h1 fun v d H' η' l' e' r' h' => k.ok v d H' η' l' (e1.trans e') r' h'
variable {x : Str} {p : Pos} {r : RCl} {o : DCl} {id T : String}
theorem pd_callB (hc : ClD X (.builtin id) r o) (hg : Gl X x) (hm : X.mg x = none) (hv : bootBuiltins x = some (.builtin id)) (ha : PDA X E (e :: es) tr dr) (hn : x ≠ "__name__" := by decide) (hdb : (x == ("__debug__" : Str)) = false := by decide)
    (he : starEach (e :: es) X.env = (false, eval e X.env) :: starEach es X.env := by rfl) (hpl : (backTo pos (starEach es X.env)).any (·.1) = false := by rfl) : PD X E (.Call (.Name x p) (e :: es) [] pos) (tCB r tr) (dCB o dr) :=
  ⟨pe_callB hc.op hg hm hv ha.pa hn hdb he hpl, so_cb hc ha⟩
theorem pd_callTy (hc : ClD X (.type T) r o) (hg : Gl X x) (hm : X.mg x = none) (hv : bootBuiltins x = some (.type T)) (ha : PDA X E (e :: es) tr dr) (hn : x ≠ "__name__" := by decide) (hdb : (x == ("__debug__" : Str)) = false := by decide)
    (he : starEach (e :: es) X.env = (false, eval e X.env) :: starEach es X.env := by rfl) (hpl : (backTo pos (starEach es X.env)).any (·.1) = false := by rfl) : PD X E (.Call (.Name x p) (e :: es) [] pos) (tCB r tr) (dCB o dr) :=
  ⟨pe_callTy hc.op hg hm hv ha.pa hn hdb he hpl, so_cb hc ha⟩
end
end DL
end
section
set_option Elab.async false
set_option linter.all false
set_option autoImplicit false
set_option maxRecDepth 100000
set_option maxHeartbeats 4000000
/-! DL2: statements, loops, comprehensions, defs. -/
namespace DL
open PySem PySem.Spec PyProof.Rows L2

structure DEnds where
  nx : DSt → Eta → Prop
  rt : DK
  bk : DSt → Eta → Prop
  ct : DSt → Eta → Prop
abbrev DS := Xk → DEnds → DSt → Eta → Prop
structure SK (K : PySem.W.Frag) (R : Addr → Prop) (E : XK) (η : Eta) (H : Hp) (Z : Xk) (P : DEnds) (D : Ends) : Prop where
  nx : ∀ σ' H' δ' η', Lk K R η' H' → Ext η H η' H' → Sl K R η' H' δ' σ' → P.nx δ' η' → D.nx σ' H'
  rt : ∀ v d H' η', Lk K R η' H' → Ext η H η' H' → Rep K R η' H' v d → P.rt d η' → D.rt v H'
  bk : ∀ σ' H' δ' η', Lk K R η' H' → Ext η H η' H' → Sl K R η' H' δ' σ' → P.bk δ' η' → D.bk σ' H'
  ct : ∀ σ' H' δ' η', Lk K R η' H' → Ext η H η' H' → Sl K R η' H' δ' σ' → P.ct δ' η' → D.ct σ' H'
  ex : ∀ C od x H' η', Lk K R η' H' → Ext η H η' H' → XRep K R η' H' C od x → Z x η' → E (.ref C) od H'
theorem SK.at_ {K : PySem.W.Frag} {R : Addr → Prop} {E : XK} {η η1 : Eta} {H H1 : Hp} {Z : Xk} {P : DEnds} {D : Ends} (k : SK K R E η H Z P D) (e : Ext η H η1 H1) : SK K R E η1 H1 Z P D :=
  ⟨fun σ' H' δ' η' l x => k.nx σ' H' δ' η' l (e.trans x), fun v d H' η' l x => k.rt v d H' η' l (e.trans x), fun σ' H' δ' η' l x => k.bk σ' H' δ' η' l (e.trans x), fun σ' H' δ' η' l x => k.ct σ' H' δ' η' l (e.trans x), fun C od x H' η' l y => k.ex C od x H' η' l (e.trans y)⟩
def SoundS (K : PySem.W.Frag) (E : XK) (ts : TS) (t : DS) : Prop :=
  ∀ (R : Addr → Prop) (σ : L2.St) (H : Hp) (δ : DSt) (η : Eta) (Z : Xk) (P : DEnds) (D : Ends), Lk K R η H → Sl K R η H δ σ → t Z P δ η → SK K R E η H Z P D → ts D σ H
structure PDS (X : Cx) (E : XK) (st : Stmt) (ts : TS) (t : DS) : Prop where
  ps : PS X st ts
  so : SoundS X.K E ts t
structure PDSs (X : Cx) (E : XK) (st : List Stmt) (ts : TS) (t : DS) : Prop where
  ps : PSs X st ts
  so : SoundS X.K E ts t
/-- an expression's continuation within a statement -/
theorem SK.kn {K : PySem.W.Frag} {R : Addr → Prop} {E : XK} {η : Eta} {H : Hp} {Z : Xk} {P : DEnds} {D : Ends} (k : SK K R E η H Z P D) {α β : Type} {Rl : (Addr → Prop) → Eta → Hp → α → β → Prop} {Φ : β → Eta → Prop} {Q : α → Hp → Prop}
    (h : ∀ v d H' η', Lk K R η' H' → Ext η H η' H' → Rl R η' H' v d → Φ d η' → Q v H') : Kn K R E η H Z Rl Φ Q := ⟨h, k.ex⟩

abbrev DG := D → DSt → Eta → (DSt → Eta → Prop) → Prop
abbrev DGs := List D → DSt → Eta → (DSt → Eta → Prop) → Prop
def SoundT (K : PySem.W.Frag) (g : TG) (dg : DG) : Prop :=
  ∀ (R : Addr → Prop) (σ : L2.St) (H : Hp) (δ : DSt) (η : Eta) (v : V) (d : D) (Ψ : DSt → Eta → Prop) (Q : L2.St → Hp → Prop), Lk K R η H → Sl K R η H δ σ → Rep K R η H v d → dg d δ η Ψ →
    (∀ σ' H' δ' η', Lk K R η' H' → Ext η H η' H' → Sl K R η' H' δ' σ' → Ψ δ' η' → Q σ' H') → g v σ H Q
def SoundTs (K : PySem.W.Frag) (g : TGs) (dg : DGs) : Prop :=
  ∀ (R : Addr → Prop) (σ : L2.St) (H : Hp) (δ : DSt) (η : Eta) (v : List V) (d : List D) (Ψ : DSt → Eta → Prop) (Q : L2.St → Hp → Prop), Lk K R η H → Sl K R η H δ σ → Reps K R η H v d → dg d δ η Ψ →
    (∀ σ' H' δ' η', Lk K R η' H' → Ext η H η' H' → Sl K R η' H' δ' σ' → Ψ δ' η' → Q σ' H') → g v σ H Q
structure PDG (X : Cx) (e : Expr) (g : TG) (dg : DG) : Prop where
  pg : PG X e g
  so : SoundT X.K g dg
structure PDGs (X : Cx) (es : List Expr) (g : TGs) (dg : DGs) : Prop where
  pgs : PGs X es g
  so : SoundTs X.K g dg

section
variable {X : Cx} {E : XK} {st : Stmt} {rest : List Stmt} {ts us : TS} {t u : DS} {e : Expr} {te : TE} {de : DE} {pos : Pos}
def dNext : DS := fun _ P δ η => P.nx δ η
def dSeq (t u : DS) : DS := fun Z P δ η => t Z ⟨fun δ' η' => u Z P δ' η', P.rt, P.bk, P.ct⟩ δ η
theorem pdss_nil : PDSs X E [] tNext dNext := ⟨pss_nil, fun R σ H δ η Z P D l s h k => k.nx σ H δ η l (Ext.refl _ _) s h⟩
theorem pdss_one (h : PDS X E st ts t) : PDSs X E [st] ts t := ⟨pss_one h.ps, h.so⟩
theorem pdss_cons (h1 : PDS X E st ts t) (h2 : PDSs X E rest us u) : PDSs X E (st :: rest) (tSeq ts us) (dSeq t u) := ⟨pss_cons h1.ps h2.ps, fun R σ H δ η Z P D l s h k => by
  refine h1.so R σ H δ η Z _ _ l s h ⟨fun σ' H' δ' η' l' x s' h' => ?_, k.rt, k.bk, k.ct, k.ex⟩
  exact h2.so R σ' H' δ' η' Z P D l' s' h' (k.at_ x)⟩
def dBreak : DS := fun _ P δ η => P.bk δ η
def dCont : DS := fun _ P δ η => P.ct δ η
theorem pds_pass : PDS X E (.Pass pos) tNext dNext := ⟨ps_pass, fun R σ H δ η Z P D l s h k => k.nx σ H δ η l (Ext.refl _ _) s h⟩
theorem pds_break : PDS X E (.Break pos) tBreak dBreak := ⟨ps_break, fun R σ H δ η Z P D l s h k => k.bk σ H δ η l (Ext.refl _ _) s h⟩
theorem pds_continue : PDS X E (.Continue pos) tCont dCont := ⟨ps_continue, fun R σ H δ η Z P D l s h k => k.ct σ H δ η l (Ext.refl _ _) s h⟩
theorem pds_doc {x j pos pos'} : PDS X E (.Expr (.Constant (.str x) j pos) pos') tNext dNext := ⟨ps_doc, fun R σ H δ η Z P D l s h k => k.nx σ H δ η l (Ext.refl _ _) s h⟩
def dDrop (de : DE) : DS := fun Z P δ η => de Z δ η fun _ η1 => P.nx δ η1
theorem pds_expr (he : PD X E e te de) (hs : swapsWith e none pos.line X.env = pure false := by rfl) : PDS X E (.Expr e pos) (tDrop te) (dDrop de) := ⟨ps_expr he.pe hs, fun R σ H δ η Z P D l s h k => by
  exact he.so R σ H δ η Z _ _ l s h (k.kn fun v d H' η' l' x r h' => k.nx σ H' δ η' l' x (s.up x) h')⟩
def dRet (de : DE) : DS := fun Z P δ η => de Z δ η P.rt
theorem pds_ret (he : PD X E e te de) : PDS X E (.Return (some e) pos) (tRet te) (dRet de) := ⟨ps_ret he.pe, fun R σ H δ η Z P D l s h k => by
  exact he.so R σ H δ η Z _ _ l s h (k.kn fun v d H' η' l' x r h' => k.rt v d H' η' l' x r h')⟩
/-- a mutable list is returned for good -/
def frz (d : D) (η : Eta) : D × Eta := match d with
  | .ref p => match η p with
    | some (.lst ds) => (.lst ds, edel η p)
    | _ => (d, η)
  | _ => (d, η)
def dRetF (de : DE) : DS := fun Z P δ η => de Z δ η fun d η1 => P.rt (frz d η1).1 (frz d η1).2
theorem Ext.del {η : Eta} {H : Hp} {p : Addr} : Ext η H (edel η p) H := ⟨fun _ _ _ h => h, fun a h => by
  unfold edel at h
  split at h
  · exact absurd rfl h
  · exact .inl h⟩
theorem Lk.del {K : PySem.W.Frag} {R : Addr → Prop} {η : Eta} {H : Hp} {p : Addr} (l : Lk K R η H) : Lk K R (edel η p) H := by
  refine ⟨fun a m e => ?_, fun a ra => ?_⟩
  · unfold edel at e
    split at e
    · cases e
    · exact (l.m a m e).up Ext.del fun o h => h
  · obtain ⟨h1, h2⟩ := l.r a ra
    refine ⟨h1, ?_⟩
    unfold edel
    split
    · rfl
    · exact h2
theorem frz_ok {K : PySem.W.Frag} {R : Addr → Prop} {η : Eta} {H : Hp} {v : V} {d : D} (l : Lk K R η H) (r : Rep K R η H v d) : Lk K R (frz d η).2 H ∧ Ext η H (frz d η).2 H ∧ Rep K R (frz d η).2 H v (frz d η).1 := by
  unfold frz
  split
  · rename_i p
    split
    · rename_i ds e
      cases r
      obtain ⟨xs, h1, h2⟩ := l.m p _ e
      refine ⟨l.del, Ext.del, .lst (.inl h1) ?_ (l.nrm (by rw [e]; simp)) (h2.up Ext.del)⟩
      show (if p = p then none else η p) = none
      rw [if_pos rfl]
    · exact ⟨l, Ext.refl _ _, r⟩
  · exact ⟨l, Ext.refl _ _, r⟩
theorem pds_retF (he : PD X E e te de) : PDS X E (.Return (some e) pos) (tRet te) (dRetF de) := ⟨ps_ret he.pe, fun R σ H δ η Z P D l s h k => by
  refine he.so R σ H δ η Z _ _ l s h (k.kn fun v d H' η' l' x r h' => ?_)
  obtain ⟨l2, x2, r2⟩ := frz_ok l' r
  exact k.rt v _ H' _ l2 (x.trans x2) r2 h'⟩
def dRetN : DS := fun _ P _ η => P.rt .non η
theorem pds_retN : PDS X E (.Return none pos) tRetN dRetN := ⟨ps_retN, fun R σ H δ η Z P D l s h k => k.rt .non .non H η l (Ext.refl _ _) .non h⟩
def dIfS (c : DT) (t u : DS) : DS := fun Z P δ η => c Z δ η fun b η1 => if b = true then t Z P δ η1 else u Z P δ η1
theorem pds_if {c : Expr} {a b : List Stmt} {tc : TT} {dc : DT} (hc : PDT X E c tc dc) (ha : PDSs X E a ts t) (hb : PDSs X E b us u) : PDS X E (.If c a b pos) (tIfS tc ts us) (dIfS dc t u) := ⟨ps_if hc.pt ha.ps hb.ps, fun R σ H δ η Z P D l s h k => by
  refine hc.so R σ H δ η Z _ _ l s h (k.kn fun v d H' η' l' x r h' => ?_)
  obtain rfl : v = d := r
  cases v with
  | true => exact ha.so R σ H' δ η' Z P D l' (s.up x) h' (k.at_ x)
  | false => exact hb.so R σ H' δ η' Z P D l' (s.up x) h' (k.at_ x)⟩
def dNever : DS := fun _ _ _ _ => False
theorem pds_never : PDS X E st tNever dNever := ⟨ps_never, fun R σ H δ η Z P D l s h k => h.elim⟩
theorem pdss_never {sts : List Stmt} : PDSs X E sts tNever dNever := ⟨pss_never, fun R σ H δ η Z P D l s h k => h.elim⟩

/-! ### targets -/
def dName (i : Nat) : DG := fun d δ η Ψ => Ψ (δ.set i (some d)) η
theorem so_name {K : PySem.W.Frag} {i : Nat} : SoundT K (gName i) (dName i) := fun R σ H δ η v d Ψ Q l s r h k => k _ H _ η l (Ext.refl _ _) (s.set r i) h
theorem pdg_name {i : Nat} {x : Str} (hN : X.N.Nodup) (hi : X.N[i]? = some x) (hx : Loc X.env.scope x) (hf : X.fn x = true ∨ X.env.scope.names.lookup x = some .local := by first | exact .inl rfl | exact .inr rfl | assumption) : PDG X (.Name x pos) (gName i) (dName i) := ⟨pg_name hN hi hx hf, so_name⟩
def dgNil : DGs := fun ds δ η Ψ => ds = [] ∧ Ψ δ η
def dgCons (g : DG) (gs : DGs) : DGs := fun ds δ η Ψ => ∃ d r, ds = d :: r ∧ g d δ η fun δ' η' => gs r δ' η' Ψ
theorem pdgs_nil : PDGs X [] gNil dgNil := ⟨pgs_nil, fun R σ H δ η v d Ψ Q l s r h k => by
  obtain ⟨rfl, h⟩ := h
  cases r
  exact ⟨rfl, k σ H δ η l (Ext.refl _ _) s h⟩⟩
theorem pdgs_cons {es : List Expr} {g : TG} {gs : TGs} {dg : DG} {dgs : DGs} (h1 : PDG X e g dg) (h2 : PDGs X es gs dgs) (hs : (assignEach (e :: es) X.env).map (·.2) = assign e X.env :: (assignEach es X.env).map (·.2) := by rfl) : PDGs X (e :: es) (gCons g gs) (dgCons dg dgs) :=
  ⟨pgs_cons h1.pg h2.pgs hs, fun R σ H δ η v d Ψ Q l s r h k => by
  obtain ⟨d1, dr, rfl, h⟩ := h
  cases r with
  | cons r1 r2 =>
    refine ⟨_, _, rfl, h1.so R σ H δ η _ _ _ _ l s r1 h fun σ' H' δ' η' l' x s' h' => ?_⟩
    exact h2.so R σ' H' δ' η' _ _ Ψ Q l' s' (r2.up x) h' fun σ2 H2 δ2 η2 l2 x2 s2 q2 => k σ2 H2 δ2 η2 l2 (x.trans x2) s2 q2⟩
def dTupG (n : Nat) (gs : DGs) : DG := fun d δ η Ψ => ∃ ds, d = .tup ds ∧ ds.length = n ∧ gs ds δ η Ψ
theorem pdg_tup {es : List Expr} {k : Nat} {gs : TGs} {dgs : DGs} {n : Nat} (hc : X.calm = true) (h : PDGs X es gs dgs) (hn : (assignEach es X.env).length = n := by rfl) (hst : (assignEach es X.env).findIdx? (·.1) = none := by rfl) : PDG X (.Tuple es k pos) (gTup X.K n gs) (dTupG n dgs) :=
  ⟨pg_tup hc h.pgs hn hst, fun R σ H δ η v d Ψ Q l s r hw k => by
  obtain ⟨ds, rfl, hl, hw⟩ := hw
  obtain ⟨a, xs, rfl, hq, rs⟩ := r.sqT
  exact ⟨a, xs, rfl, hq, by rw [rs.length]; exact hl, h.so R σ H δ η _ _ Ψ Q l s rs hw k⟩⟩
def dAsg (de : DE) (g : DG) : DS := fun Z P δ η => de Z δ η fun d η1 => g d δ η1 P.nx
theorem so_asg {K : PySem.W.Frag} {g : TG} {dg : DG} (he : SoundG K E (Rep K) te de) (hg : SoundT K g dg) : SoundS K E (tAsg te g) (dAsg de dg) := fun R σ H δ η Z P D l s h k => by
  refine he R σ H δ η Z _ _ l s h (k.kn fun v d H' η' l' x r h' => ?_)
  exact hg R σ H' δ η' v d _ _ l' (s.up x) r h' fun σ2 H2 δ2 η2 l2 x2 s2 q2 => k.nx σ2 H2 δ2 η2 l2 (x.trans x2) s2 q2
theorem pds_asg {tg : Expr} {g : TG} {dg : DG} (he : PD X E e te de) (hg : PDG X tg g dg) (hs : swapsWithSole [tg] e pos.line X.env = pure false := by rfl) (hw : swappedStores [tg] e X.env = pure none := by rfl)
    (h1 : (assignEach [tg] X.env).map (·.2) = [assign tg X.env] := by rfl) : PDS X E (.Assign [tg] e pos) (tAsg te g) (dAsg de dg) := ⟨ps_asg he.pe hg.pg hs hw h1, so_asg he.so hg.so⟩
theorem pds_set {i : Nat} {x : Str} {pos' : Pos} (hN : X.N.Nodup) (hi : X.N[i]? = some x) (hx : Loc X.env.scope x) (he : PD X E e te de) (hs : swapsWith e (some (.Name x pos')) pos.line X.env = pure false := by rfl) (hf : X.fn x = true ∨ X.env.scope.names.lookup x = some .local := by first | exact .inl rfl | exact .inr rfl | assumption) :
    PDS X E (.Assign [.Name x pos'] e pos) (tAsg te (gName i)) (dAsg de (dName i)) := ⟨ps_set hN hi hx he.pe hs hf, so_asg he.so so_name⟩
def dPar (i j : Nat) (da : DA) : DS := fun Z P δ η => da Z δ η fun ds η1 => ∃ v w, ds = [v, w] ∧ P.nx ((δ.set i (some v)).set j (some w)) η1
theorem pds_par {i j : Nat} {x y : Str} {a b : Expr} {ta : TA} {da : DA} {px py pt : Pos} {kt k2 pt2} (hc : X.calm = true) (hN : X.N.Nodup) (hi : X.N[i]? = some x) (hj : X.N[j]? = some y) (hij : i ≠ j)
    (hx : X.env.scope.names.lookup x = some .local) (hy : X.env.scope.names.lookup y = some .local) (ha : PDA X E [a, b] ta da)
    (hw : swappedStores [.Tuple [.Name x px, .Name y py] kt pt] (.Tuple [a, b] k2 pt2) X.env = pure (some [x, y]))
    (hs : swapsWithSole [.Tuple [.Name x px, .Name y py] kt pt] (.Tuple [a, b] k2 pt2) pos.line X.env = pure false := by rfl) :
    PDS X E (.Assign [.Tuple [.Name x px, .Name y py] kt pt] (.Tuple [a, b] k2 pt2) pos) (tPar i j ta) (dPar i j da) := ⟨ps_par hc hN hi hj hij hx hy ha.pa hw hs, fun R σ H δ η Z P D l s h k => by
  refine ha.so R σ H δ η Z _ _ l s h (k.kn fun v d H' η' l' x r h' => ?_)
  obtain ⟨d1, d2, rfl, h'⟩ := h'
  cases r with
  | cons r1 r =>
    cases r with
    | cons r2 r =>
      cases r
      exact ⟨_, _, rfl, k.nx _ H' _ η' l' x (((s.up x).set r1 i).set r2 j) h'⟩⟩
def dPar3 (i j m : Nat) (da : DA) : DS := fun Z P δ η => da Z δ η fun ds η1 => ∃ u v w, ds = [u, v, w] ∧ P.nx (((δ.set i (some u)).set j (some v)).set m (some w)) η1
theorem pds_par3 {i j m : Nat} {x y z : Str} {a b c : Expr} {ta : TA} {da : DA} {px py pz pt pos : Pos} {kt k2 pt2} (hc : X.calm = true) (hN : X.N.Nodup) (hi : X.N[i]? = some x) (hj : X.N[j]? = some y) (hl : X.N[m]? = some z) (hij : i ≠ j) (hil : i ≠ m) (hjl : j ≠ m)
    (hx : X.env.scope.names.lookup x = some .local) (hy : X.env.scope.names.lookup y = some .local) (hz : X.env.scope.names.lookup z = some .local) (ha : PDA X E [a, b, c] ta da)
    (hw : swappedStores [.Tuple [.Name x px, .Name y py, .Name z pz] kt pt] (.Tuple [a, b, c] k2 pt2) X.env = pure (some [x, y, z]))
    (hs : swapsWithSole [.Tuple [.Name x px, .Name y py, .Name z pz] kt pt] (.Tuple [a, b, c] k2 pt2) pos.line X.env = pure false := by rfl) :
    PDS X E (.Assign [.Tuple [.Name x px, .Name y py, .Name z pz] kt pt] (.Tuple [a, b, c] k2 pt2) pos) (tPar3 i j m ta) (dPar3 i j m da) := ⟨ps_par3 hc hN hi hj hl hij hil hjl hx hy hz ha.pa hw hs, fun R σ H δ η Z P D l s h k => by
  refine ha.so R σ H δ η Z _ _ l s h (k.kn fun v d H' η' l' x r h' => ?_)
  obtain ⟨d1, d2, d3, rfl, h'⟩ := h'
  cases r with
  | cons r1 r =>
    cases r with
    | cons r2 r =>
      cases r with
      | cons r3 r =>
        cases r
        exact ⟨_, _, _, rfl, k.nx _ H' _ η' l' x ((((s.up x).set r1 i).set r2 j).set r3 m) h'⟩⟩
/-- x op= e -/
structure IpD (X : Cx) (op : Operator) (ti : TIp) (o : DR2) : Prop where
  op : PIp X op ti
  so : SoundR2 X.K ti o
def dAug (i : Nat) (de : DE) (o : DR2) : DS := fun Z P δ η => ∃ d, δ[i]? = some (some d) ∧ de Z δ η fun y η1 => o d y η1 fun z η2 => P.nx (δ.set i (some z)) η2
theorem pds_aug {i : Nat} {x : Str} {op : Operator} {ti : TIp} {o : DR2} {pos' : Pos} (hN : X.N.Nodup) (hi : X.N[i]? = some x) (hx : Loc X.env.scope x) (he : PD X E e te de) (ho : IpD X op ti o) (hf : X.fn x = true ∨ X.env.scope.names.lookup x = some .local := by first | exact .inl rfl | exact .inr rfl | assumption) :
    PDS X E (.AugAssign (.Name x pos') op e pos) (tAug i te ti) (dAug i de o) := ⟨ps_aug hN hi hx he.pe ho.op hf, fun R σ H δ η Z P D l s h k => by
  obtain ⟨d, e1, h⟩ := h
  obtain ⟨v, hv, rv⟩ := s.at_ i d e1
  refine ⟨v, hv, he.so R σ H δ η Z _ _ l s h (k.kn fun w d2 H' η' l' x r h' => ?_)⟩
  exact ho.so R η' H' v w d d2 _ _ l' (rv.up x) r h' fun z dz H2 η2 l2 x2 r2 h2 => k.nx _ H2 _ η2 l2 (x.trans x2) (((s.up x).up x2).set r2 i) h2⟩
/-- o[i] = v -/
abbrev DSet := D → D → D → Eta → (Eta → Prop) → Prop
structure StD (X : Cx) (r : TSet) (o : DSet) : Prop where
  op : PSet X r
  so : ∀ (R : Addr → Prop) (η : Eta) (H : Hp) (x y z : V) (dx dy dz : D) (Φ : Eta → Prop) (Q : Hp → Prop), Lk X.K R η H → Rep X.K R η H x dx → Rep X.K R η H y dy → Rep X.K R η H z dz → o dx dy dz η Φ → (∀ H' η', Lk X.K R η' H' → Ext η H η' H' → Φ η' → Q H') → r x y z H Q
abbrev Z0 : Xk := fun _ _ => False
def dSub (do_ di : DE) (o : DSet) : DG := fun v δ η Ψ => do_ Z0 δ η fun x η1 => di Z0 δ η1 fun y η2 => o x y v η2 fun η3 => Ψ δ η3
theorem pdg_sub {o i : Expr} {to ti : TE} {do_ di : DE} {r : TSet} {ds : DSet} (ho : PD X E o to do_) (hi : PD X E i ti di) (hs : StD X r ds)
    (ha : ∀ v, assign (.Subscript o i pos) X.env v = (do
      let ov ← holding [v] (eval o X.env)
      let iv ← holding [v, ov] (eval i X.env)
      standAt pos
      holding [v, ov, iv] (setItem ov iv v)
      release [v, ov, iv] []) := by intro _; rfl) : PDG X (.Subscript o i pos) (gSub to ti r) (dSub do_ di ds) := ⟨pg_sub ho.pe hi.pe hs.op ha, fun R σ H δ η v d Ψ Q l s r h k => by
  refine ho.so R σ H δ η Z0 _ _ l s h ⟨fun v1 d1 H1 η1 l1 x1 r1 h1 => ?_, fun _ _ _ _ _ _ _ _ z => z.elim⟩
  refine hi.so R σ H1 δ η1 Z0 _ _ l1 (s.up x1) h1 ⟨fun v2 d2 H2 η2 l2 x2 r2 h2 => ?_, fun _ _ _ _ _ _ _ _ z => z.elim⟩
  exact hs.so R η2 H2 v1 v2 v d1 d2 d _ _ l2 (r1.up x2) r2 ((r.up x1).up x2) h2 fun H3 η3 l3 x3 h3 => k σ H3 δ η3 l3 ((x1.trans x2).trans x3) ((s.up x1).up (x2.trans x3)) h3⟩
end

/-! ### what a loop walks -/
/-- the items ds, while G holds -/
def ItOk (K : PySem.W.Frag) (R : Addr → Prop) (η0 : Eta) (H0 : Hp) (J : It) (ds : List D) (G : Eta → Prop) : Prop :=
  ∀ (η : Eta) (H : Hp), Lk K R η H → Ext η0 H0 η H → G η → J.stop ds.length H ∧ ∀ (i : Nat) (d : D), ds[i]? = some d → J.go i H ∧ ∀ x H', J.yld i H x H' → Lk K R η H' ∧ (∀ a o, H a = some o → H' a = some o) ∧ Rep K R η H' x d
abbrev DI := Xk → DSt → Eta → (List D → (Eta → Prop) → Eta → Prop) → Prop
def SoundI (K : PySem.W.Frag) (E : XK) (wi : TI) (di : DI) : Prop :=
  ∀ (R : Addr → Prop) (σ : L2.St) (H : Hp) (δ : DSt) (η : Eta) (Z : Xk) (Ψ : List D → (Eta → Prop) → Eta → Prop) (Q : It → Hp → Prop), Lk K R η H → Sl K R η H δ σ → di Z δ η Ψ →
    (∀ J ds G H' η', Lk K R η' H' → Ext η H η' H' → (∀ R', (∀ a, R a → R' a) → (∀ a, R' a → ¬ R a → H' a = none) → ItOk K R' η' H' J ds G) → Ψ ds G η' → Q J H') →
    (∀ C od x H' η', Lk K R η' H' → Ext η H η' H' → XRep K R η' H' C od x → Z x η' → E (.ref C) od H') → wi σ H Q
structure PDI (X : Cx) (E : XK) (tg iter : Expr) (wi : TI) (di : DI) : Prop where
  pi : PI X tg iter wi
  so : SoundI X.K E wi di

def dForL (g : DG) (body : DS) (Z : Xk) (P : DEnds) (G : Eta → Prop) : List D → DSt → Eta → Prop
  | [], δ, η => G η ∧ P.nx δ η
  | x :: xs, δ, η => G η ∧ g x δ η fun δ1 η1 => body Z ⟨fun δ2 η2 => dForL g body Z P G xs δ2 η2, P.rt, P.nx, fun δ2 η2 => dForL g body Z P G xs δ2 η2⟩ δ1 η1
def dFor (di : DI) (g : DG) (body : DS) : DS := fun Z P δ η => di Z δ η fun ds G η1 => dForL g body Z P G ds δ η1
theorem dForL_G {g : DG} {body : DS} {Z : Xk} {P : DEnds} {G : Eta → Prop} : ∀ {ds : List D} {δ : DSt} {η : Eta}, dForL g body Z P G ds δ η → G η
  | [], _, _, h => h.1
  | _ :: _, _, _, h => h.1
section
variable {X : Cx} {E : XK} {tg iter : Expr} {body : List Stmt} {wi : TI} {di : DI} {g : TG} {dg : DG} {tb : TS} {db : DS} {pos : Pos}
theorem pds_for (hp : PassesOwn (model X.prog X.w) X.A X.env X.xe) (hc : X.calm = true) (hi : PDI X E tg iter wi di) (hg : PDG X tg g dg) (hb : PDSs X E body tb db)
    (hs : ∀ x, foldedSetIterable iter X.env x = pure x := by intro _; rfl) : PDS X E (.For tg iter body [] pos) (tFor wi g tb) (dFor di dg db) := ⟨ps_for hp hc hi.pi hg.pg hb.ps hs, fun R σ H δ η Z P D l s h k => by
  refine hi.so R σ H δ η Z _ _ l s h (fun J ds G H1 η1 l1 x1 it h1 => ?_) k.ex
  have it := it R (fun _ h => h) (fun a h1 h2 => absurd h1 h2)
  refine ⟨fun i m σ' H' => m = ds.length - i ∧ i ≤ ds.length ∧ ∃ δ' η', Lk X.K R η' H' ∧ Ext η1 H1 η' H' ∧ Sl X.K R η' H' δ' σ' ∧ dForL dg db Z P G (ds.drop i) δ' η', ⟨ds.length, by simp, Nat.zero_le _, δ, η1, l1, Ext.refl _ _, s.up x1, by simpa using h1⟩, ?_⟩
  rintro i m σ' H' ⟨rfl, hi', δ', η', l', x', s', h'⟩
  obtain ⟨st, go⟩ := it η' H' l' x' (dForL_G h')
  by_cases hlt : i < ds.length
  · obtain ⟨d, hd⟩ : ∃ d, ds[i]? = some d := ⟨ds[i], by simp [hlt]⟩
    obtain ⟨g1, g2⟩ := go i d hd
    have hdr : ds.drop i = d :: ds.drop (i + 1) := by
      rw [List.drop_eq_getElem_cons hlt]
      rw [List.getElem?_eq_getElem hlt] at hd
      rw [Option.some.inj hd]
    rw [hdr] at h'
    refine .inr ⟨g1, fun σ2 H2 => ∃ δ2 η2, Lk X.K R η2 H2 ∧ Ext η1 H1 η2 H2 ∧ Sl X.K R η2 H2 δ2 σ2 ∧ dForL dg db Z P G (ds.drop (i + 1)) δ2 η2, fun σ2 H2 n => ⟨ds.length - (i + 1), by omega, rfl, hlt, n⟩, fun x H2 y => ?_⟩
    obtain ⟨l2, ex2, r2⟩ := g2 x H2 y
    have x2 : Ext η' H' η' H2 := Ext.ex ex2
    refine hg.so R σ' H2 δ' η' x d _ _ l2 (s'.up x2) r2 h'.2 fun σ3 H3 δ3 η3 l3 x3 s3 h3 => ?_
    have x13 := (x'.trans x2).trans x3
    exact hb.so R σ3 H3 δ3 η3 Z _ _ l3 s3 h3 ⟨fun σ4 H4 δ4 η4 l4 x4 s4 h4 => ⟨δ4, η4, l4, x13.trans x4, s4, h4⟩, fun v d H4 η4 l4 x4 => k.rt v d H4 η4 l4 (x1.trans (x13.trans x4)), fun σ4 H4 δ4 η4 l4 x4 => k.nx σ4 H4 δ4 η4 l4 (x1.trans (x13.trans x4)),
      fun σ4 H4 δ4 η4 l4 x4 s4 h4 => ⟨δ4, η4, l4, x13.trans x4, s4, h4⟩, fun C od x H4 η4 l4 x4 => k.ex C od x H4 η4 l4 (x1.trans (x13.trans x4))⟩
  · have e : i = ds.length := by omega
    subst e
    rw [List.drop_length] at h'
    exact .inl ⟨st, k.nx σ' H' δ' η' l' (x1.trans x') s' h'.2⟩⟩

/-- over a list, a tuple -/
def asL (η : Eta) : D → Option (List D)
  | .lst xs => some xs
  | .ref p => match η p with
    | some (.lst xs) => some xs
    | _ => none
  | _ => none
def dIL (de : DE) : DI := fun Z δ η Ψ => de Z δ η fun d η1 => match d with
  | .lst ds => Ψ ds (fun _ => True) η1
  | .ref p => ∃ ds, η1 p = some (.lst ds) ∧ Ψ ds (fun η => η p = some (.lst ds)) η1
  | _ => False
def dIT (de : DE) : DI := fun Z δ η Ψ => de Z δ η fun d η1 => ∃ ds, d = .tup ds ∧ Ψ ds (fun _ => True) η1
theorem Reps.resv {K : PySem.W.Frag} {R R' : Addr → Prop} {η : Eta} {H : Hp} (h1 : ∀ a, R a → R' a) (h2 : ∀ a, R' a → ¬ R a → H a = none) : (∀ (d : D) (v : V), Rep K R η H v d → Rep K R' η H v d) → ∀ (ds : List D) (vs : List V), Reps K R η H vs ds → Reps K R' η H vs ds
  | _, [], _, h => by cases h; exact .nil
  | f, d :: ds, _, h => by
    cases h with
    | cons a b => exact .cons (f d _ a) (Reps.resv h1 h2 f ds _ b)
end
mutual
/-- more is kept back: new addresses -/
theorem Rep.more {K : PySem.W.Frag} {R R' : Addr → Prop} {η : Eta} {H : Hp} (h2 : ∀ a, R' a → ¬ R a → H a = none) : ∀ (d : D) (v : V), Rep K R η H v d → Rep K R' η H v d
  | .non, _, h => by cases h; exact .non
  | .bl _, _, h => by cases h; exact .bl _
  | .int _, _, h => by cases h; exact .int _
  | .str _, _, h => by cases h with | str a => exact .str a
  | .ty _, _, h => by cases h; exact .ty _
  | .ref _, _, h => by cases h; exact .ref _
  | .lst ds, _, h => by
    cases h with
    | lst a b r c => exact .lst a b (fun z => by have q := h2 _ z r; rcases a with a | ⟨o, a⟩ <;> (rw [q] at a; cases a)) (Reps.more h2 ds _ c)
  | .klst ds, _, h => by
    cases h with
    | klst a b r c => exact .klst a b (fun z => by have q := h2 _ z r; rcases a with a | ⟨o, a⟩ <;> (rw [q] at a; cases a)) (Reps.more h2 ds _ c)
    | klstK a1 a2 a3 a4 a5 a6 c => exact .klstK a1 a2 a3 a4 a5 a6 (Reps.more h2 ds _ c)
  | .tup ds, _, h => by
    cases h with
    | tup a b r c => exact .tup a b (fun z => by have q := h2 _ z r; rcases a with a | ⟨o, a⟩ <;> (rw [q] at a; cases a)) (Reps.more h2 ds _ c)
    | tupK a1 a2 a3 a4 a5 c => exact .tupK a1 a2 a3 a4 a5 (Reps.more h2 ds _ c)
  | .obj C ns ds, _, h => by
    cases h with
    | obj a b r c d => exact .obj a b (fun z => by have q := h2 _ z r; rw [q] at a; cases a) c (Reps.more h2 ds _ d)
  | .dct ks ds, _, h => by
    cases h with
    | dct a b r c d => exact .dct a b (fun z => by have q := h2 _ z r; rcases a with a | ⟨o, a⟩ <;> (rw [q] at a; cases a)) c (Reps.more h2 ds _ d)
theorem Reps.more {K : PySem.W.Frag} {R R' : Addr → Prop} {η : Eta} {H : Hp} (h2 : ∀ a, R' a → ¬ R a → H a = none) : ∀ (ds : List D) (vs : List V), Reps K R η H vs ds → Reps K R' η H vs ds
  | [], _, h => by cases h; exact .nil
  | d :: ds, _, h => by
    cases h with
    | cons a b => exact .cons (Rep.more h2 d _ a) (Reps.more h2 ds _ b)
end
theorem MOk.more {K : PySem.W.Frag} {R R' : Addr → Prop} {η : Eta} {H : Hp} (h2 : ∀ a, R' a → ¬ R a → H a = none) {a : Addr} {m : M} (h : MOk K R η H a m) : MOk K R' η H a m := by
  cases m with
  | lst ds => obtain ⟨xs, a, b⟩ := h; exact ⟨xs, a, Reps.more h2 _ _ b⟩
  | ins C ns ds => obtain ⟨dx, fs, a, b, c⟩ := h; exact ⟨dx, fs, a, b, Reps.more h2 _ _ c⟩
  | dct ks ds => obtain ⟨kvs, a, b, c⟩ := h; exact ⟨kvs, a, b, Reps.more h2 _ _ c⟩
section
variable {X : Cx} {E : XK} {tg e : Expr} {te : TE} {de : DE} {pos : Pos}
theorem pdi_list (h : PD X E e te de) : PDI X E tg e (iList X.K te) (dIL de) := ⟨pi_list h.pe, fun R σ H δ η Z Ψ Q l s hw k kx => by
  refine h.so R σ H δ η Z _ _ l s hw ⟨fun v d H1 η1 l1 x1 r1 h1 => ?_, kx⟩
  cases d with
  | lst ds =>
    obtain ⟨a, xs, rfl, hq, rs⟩ := r1.sqL
    refine ⟨a, rfl, ⟨xs, hq⟩, k _ ds _ H1 η1 l1 x1 (fun R' m1 m2 η H l' x' _ => ?_) h1⟩
    have r' : Rep X.K R' η H (.ref a) (.lst ds) := (Rep.more m2 _ _ r1).up x'
    obtain ⟨a', xs', e', hq', rs'⟩ := r'.sqL
    cases e'
    refine ⟨⟨xs', hq', by rw [rs'.length]; exact Nat.le_refl _⟩, fun i d hd => ?_⟩
    obtain ⟨w, hw, rw_⟩ := rs'.get hd
    refine ⟨⟨xs', w, hq', hw⟩, fun y H2 yl => ?_⟩
    obtain ⟨rfl, yl⟩ := yl
    have := yl xs' hq'
    rw [hw] at this; cases this
    exact ⟨l', fun _ _ h => h, rw_⟩
  | ref p =>
    obtain ⟨ds, hp, h1⟩ := h1
    cases r1
    obtain ⟨xs, h2, h3⟩ := l1.m p _ hp
    refine ⟨p, rfl, ⟨xs, SqL.of h2⟩, k _ ds _ H1 η1 l1 x1 (fun R' m1 m2 η H l' x' hg => ?_) h1⟩
    obtain ⟨xs', hx', rs'⟩ := l'.m p _ hg
    refine ⟨⟨xs', SqL.of hx', by rw [rs'.length]; exact Nat.le_refl _⟩, fun i d hd => ?_⟩
    obtain ⟨w, hw, rw_⟩ := rs'.get hd
    refine ⟨⟨xs', w, SqL.of hx', hw⟩, fun y H2 yl => ?_⟩
    obtain ⟨rfl, yl⟩ := yl
    have := yl xs' (SqL.of hx')
    rw [hw] at this; cases this
    exact ⟨l', fun _ _ h => h, rw_⟩
  | _ => exact h1.elim⟩
theorem pdi_tup (h : PD X E e te de) : PDI X E tg e (iTup X.K te) (dIT de) := ⟨pi_tup h.pe, fun R σ H δ η Z Ψ Q l s hw k kx => by
  refine h.so R σ H δ η Z _ _ l s hw ⟨fun v d H1 η1 l1 x1 r1 h1 => ?_, kx⟩
  obtain ⟨ds, rfl, h1⟩ := h1
  obtain ⟨a, xs, rfl, hq, rs⟩ := r1.sqT
  refine ⟨a, rfl, ⟨xs, hq⟩, k _ ds _ H1 η1 l1 x1 (fun R' m1 m2 η H l' x' _ => ?_) h1⟩
  have r' : Rep X.K R' η H (.ref a) (.tup ds) := (Rep.more m2 _ _ r1).up x'
  obtain ⟨a', xs', e', hq', rs'⟩ := r'.sqT
  cases e'
  refine ⟨⟨xs', hq', by rw [rs'.length]; exact Nat.le_refl _⟩, fun i d hd => ?_⟩
  obtain ⟨w, hw, rw_⟩ := rs'.get hd
  refine ⟨⟨xs', w, hq', hw⟩, fun y H2 yl => ?_⟩
  obtain ⟨rfl, yl⟩ := yl
  have := yl xs' hq'
  rw [hw] at this; cases this
  exact ⟨l', fun _ _ h => h, rw_⟩⟩
/-- range(n), range(a, b) -/
def iota (lo : Int) (n : Nat) : List D := (List.range n).map fun (i : Nat) => D.int (lo + i)
theorem iota_length (lo : Int) (n : Nat) : (iota lo n).length = n := by simp [iota]
theorem iota_zero (lo : Int) : iota lo 0 = [] := rfl
theorem iota_succ (lo : Int) (n : Nat) : iota lo (n + 1) = .int lo :: iota (lo + 1) n := by
  unfold iota
  rw [List.range_succ_eq_map, List.map_cons, List.map_map]
  congr 1
  · simp
  · refine List.map_congr_left fun i _ => ?_
    show D.int (lo + ((i + 1 : Nat) : Int)) = D.int (lo + 1 + (i : Int))
    congr 1
    omega
theorem it_range {K : PySem.W.Frag} {R : Addr → Prop} {η : Eta} {H : Hp} {lo : Int} {n : Nat} : ItOk K R η H (Itr lo n) (iota lo n) (fun _ => True) := fun η' H' l x _ => by
  refine ⟨by show n ≤ (iota lo n).length; rw [iota_length]; exact Nat.le_refl _, fun i d hd => ?_⟩
  have hi : i < n := by have := (List.getElem?_eq_some_iff.mp hd).1; rwa [iota_length] at this
  refine ⟨hi, fun y H2 yl => ?_⟩
  obtain ⟨rfl, rfl⟩ := yl
  refine ⟨l, fun _ _ h => h, ?_⟩
  unfold iota at hd
  rw [List.getElem?_map, List.getElem?_range hi] at hd
  cases hd
  exact .int _
def dIR1 (da : DA) : DI := fun Z δ η Ψ => da Z δ η fun ds η1 => ∃ j : Int, ds = [.int j] ∧ -(2 ^ 62) ≤ j ∧ j < 2 ^ 62 ∧ Ψ (iota 0 j.toNat) (fun _ => True) η1
def dIR2 (da : DA) : DI := fun Z δ η Ψ => da Z δ η fun ds η1 => ∃ i j : Int, ds = [.int i, .int j] ∧ (-(2 ^ 62) ≤ i ∧ i < 2 ^ 62 ∧ -(2 ^ 62) ≤ j ∧ j < 2 ^ 62) ∧ Ψ (iota i (j - i).toNat) (fun _ => True) η1
theorem pdi_range1 {a : Expr} {ta : TA} {da : DA} {p : Pos} (hg : Gl X "range") (hm : X.mg "range" = none) (ha : PDA X E [a] ta da) (hs : starEach [a] X.env = [(false, eval a X.env)] := by rfl) : PDI X E tg (.Call (.Name "range" p) [a] [] pos) (iRng1 ta) (dIR1 da) := ⟨pi_range1 hg hm ha.pa hs, fun R σ H δ η Z Ψ Q l s hw k kx => by
  refine ha.so R σ H δ η Z _ _ l s hw ⟨fun v d H1 η1 l1 x1 r1 h1 => ?_, kx⟩
  obtain ⟨j, rfl, q1, q2, h1⟩ := h1
  cases r1 with
  | cons r1 r2 =>
    cases r1
    cases r2
    exact ⟨j, rfl, q1, q2, k _ _ _ H1 η1 l1 x1 (fun _ _ _ => it_range) h1⟩⟩
theorem pdi_range2 {a b : Expr} {ta : TA} {da : DA} {p : Pos} (hg : Gl X "range") (hm : X.mg "range" = none) (ha : PDA X E [a, b] ta da) (hs : starEach [a, b] X.env = [(false, eval a X.env), (false, eval b X.env)] := by rfl) (hs2 : starEach [b] X.env = [(false, eval b X.env)] := by rfl) :
    PDI X E tg (.Call (.Name "range" p) [a, b] [] pos) (iRng2 ta) (dIR2 da) := ⟨pi_range2 hg hm ha.pa hs hs2, fun R σ H δ η Z Ψ Q l s hw k kx => by
  refine ha.so R σ H δ η Z _ _ l s hw ⟨fun v d H1 η1 l1 x1 r1 h1 => ?_, kx⟩
  obtain ⟨i, j, rfl, q1, h1⟩ := h1
  cases r1 with
  | cons r1 r2 =>
    cases r1
    cases r2 with
    | cons r3 r4 =>
      cases r3
      cases r4
      exact ⟨i, j, rfl, q1, k _ _ _ H1 η1 l1 x1 (fun _ _ _ => it_range) h1⟩⟩
/-- sign by sign -/
def dIS (de : DE) : DI := fun Z δ η Ψ => de Z δ η fun d η1 => ∃ x, d = .str x ∧ Ψ (x.cps.toList.map fun c => D.str ⟨#[c]⟩) (fun _ => True) η1
end

/-! ### comprehensions -/
def wipeD (δ : DSt) : List Nat → DSt
  | [] => δ
  | v :: vs => (wipeD δ vs).set v none
def dLcL (g : DG) (tt : DT) (te : DE) (δ : DSt) (Z : Xk) (G : Eta → Prop) (Φ : DK) : List D → List D → Eta → Prop
  | [], acc, η => G η ∧ Φ (.lst acc) η
  | x :: xs, acc, η => G η ∧ g x δ η fun δ2 η2 => tt Z0 δ2 η2 fun b η3 => if b = true then te Z0 δ2 η3 fun y η4 => acc.length < sizeLine ∧ dLcL g tt te δ Z G Φ xs (acc ++ [y]) η4 else dLcL g tt te δ Z G Φ xs acc η3
def dLc (di : DI) (g : DG) (tt : DT) (te : DE) (vs : List Nat) : DE := fun Z δ η Φ => di Z δ η fun ds G η1 => dLcL g tt te (wipeD δ vs) Z G Φ ds [] η1
theorem dLcL_G {g : DG} {tt : DT} {te : DE} {δ : DSt} {Z : Xk} {G : Eta → Prop} {Φ : DK} : ∀ {ds acc : List D} {η : Eta}, dLcL g tt te δ Z G Φ ds acc η → G η
  | [], _, _, h => h.1
  | _ :: _, _, _, h => h.1
theorem Sl.wipe {K : PySem.W.Frag} {R : Addr → Prop} {η : Eta} {H : Hp} {δ : DSt} {σ : L2.St} (s : Sl K R η H δ σ) : ∀ vs, Sl K R η H (wipeD δ vs) (L2.wipe σ vs)
  | [] => s
  | v :: vs => by
    have t := Sl.wipe s vs
    refine ⟨by unfold wipeD L2.wipe; simp [t.len], fun j d' h => ?_⟩
    unfold wipeD at h
    unfold L2.wipe
    by_cases e : v = j
    · subst e
      by_cases lt : v < (wipeD δ vs).length
      · rw [List.getElem?_set_self lt] at h; cases h
      · rw [List.getElem?_eq_none (by simpa using lt)] at h; cases h
    · rw [List.getElem?_set_ne e] at h
      obtain ⟨w, h1, h2⟩ := t.at_ j d' h
      exact ⟨w, by rw [List.getElem?_set_ne e]; exact h1, h2⟩
/-- a target that stores only its own names -/
def OwnG (g : TG) (vs : List Nat) : Prop := ∀ v σ H Q, g v σ H Q → g v σ H fun σ2 H2 => L2.wipe σ2 vs = L2.wipe σ vs ∧ Q σ2 H2
def OwnGs (g : TGs) (vs : List Nat) : Prop := ∀ v σ H Q, g v σ H Q → g v σ H fun σ2 H2 => L2.wipe σ2 vs = L2.wipe σ vs ∧ Q σ2 H2
structure PDTs (X : Cx) (E : XK) (ifs : List Expr) (tt : TT) (t : DT) : Prop where
  pt : PTs X ifs tt
  so : SoundG X.K E REq tt t
def dYes : DT := fun _ _ η Φ => Φ true η
theorem pdts_nil {X : Cx} {E : XK} : PDTs X E [] tYes dYes := ⟨pts_nil, fun R σ H δ η Z Φ Q l s h k => k.ok true true H η l (Ext.refl _ _) rfl h⟩
theorem pdts_one {X : Cx} {E : XK} {c : Expr} {t : TT} {dt : DT} (h : PDT X E c t dt) : PDTs X E [c] t dt := ⟨pts_one h.pt, h.so⟩
theorem wipe_get (τ : L2.St) (ws : List Nat) (j : Nat) : (L2.wipe τ ws)[j]? = if j ∈ ws ∧ j < τ.length then some none else τ[j]? := by
  induction ws with
  | nil => simp [L2.wipe]
  | cons w ws ih =>
    unfold L2.wipe
    by_cases e : w = j
    · subst e
      by_cases lt : w < τ.length
      · rw [List.getElem?_set_self (by rw [wipe_length]; exact lt)]; simp [lt]
      · rw [List.getElem?_eq_none (by simp [wipe_length]; omega), if_neg (by omega), List.getElem?_eq_none (by omega)]
    · rw [List.getElem?_set_ne e, ih]
      have : (j ∈ w :: ws) ↔ j ∈ ws := by simp [Ne.symm e]
      simp only [this]
theorem wipe_set {σ : L2.St} {i : Nat} {x : Option V} {vs : List Nat} (hi : i ∈ vs) : L2.wipe (σ.set i x) vs = L2.wipe σ vs := by
  apply List.ext_getElem?
  intro j
  rw [wipe_get, wipe_get, List.length_set]
  by_cases hj : j ∈ vs ∧ j < σ.length
  · rw [if_pos hj, if_pos hj]
  · rw [if_neg hj, if_neg hj]
    by_cases e : i = j
    · subst e
      have : ¬ i < σ.length := fun z => hj ⟨hi, z⟩
      rw [List.getElem?_eq_none (by simp; omega), List.getElem?_eq_none (by omega)]
    · rw [List.getElem?_set_ne e]
theorem wipe_wipe {σ : L2.St} {vs : List Nat} : L2.wipe (L2.wipe σ vs) vs = L2.wipe σ vs := by
  apply List.ext_getElem?
  intro j
  rw [wipe_get, wipe_get, wipe_length]
  split <;> rfl
theorem own_name {i : Nat} {vs : List Nat} (h : i ∈ vs) : OwnG (gName i) vs := fun v σ H Q q => ⟨wipe_set h, q⟩
theorem owns_nil {vs : List Nat} : OwnGs gNil vs := fun v σ H Q q => ⟨q.1, rfl, q.2⟩
theorem pg_mono {g : TG} (m : ∀ v σ H Q Q', (∀ σ2 H2, Q σ2 H2 → Q' σ2 H2) → g v σ H Q → g v σ H Q') : True := True.intro
theorem owns_cons {g : TG} {gs : TGs} {vs : List Nat} (h1 : OwnG g vs) (h2 : OwnGs gs vs) (m : ∀ v σ H Q Q', (∀ σ2 H2, Q σ2 H2 → Q' σ2 H2) → g v σ H Q → g v σ H Q') : OwnGs (gCons g gs) vs := fun v σ H Q q => by
  obtain ⟨a, r, e, q⟩ := q
  refine ⟨a, r, e, m _ _ _ _ _ (fun σ2 H2 z => ?_) (h1 a σ H _ q)⟩
  have := h2 r σ2 H2 Q z.2
  rw [z.1] at this
  exact this
theorem own_tup {K : PySem.W.Frag} {n : Nat} {gs : TGs} {vs : List Nat} (h : OwnGs gs vs) : OwnG (gTup K n gs) vs := fun v σ H Q q => by
  obtain ⟨a, xs, e, h1, h2, q⟩ := q
  exact ⟨a, xs, e, h1, h2, h xs σ H Q q⟩
theorem mono_name {i : Nat} : ∀ v σ H (Q Q' : L2.St → Hp → Prop), (∀ σ2 H2, Q σ2 H2 → Q' σ2 H2) → gName i v σ H Q → gName i v σ H Q' := fun _ _ _ _ _ f h => f _ _ h
section
variable {X : Cx} {E : XK} {elt tg iter : Expr} {ifs : List Expr} {scope : Scope} {own : List (Str × Nat)} {pos : Pos} {wi : TI} {di : DI} {g : TG} {dg : DG} {tt : TT} {dt : DT} {te : TE} {de : DE}
theorem so_lc {K : PySem.W.Frag} {E1 : XK} (hi : SoundI K E wi di) (hg : SoundT K g dg) (ho : OwnG g (own.map (·.2))) (ht : SoundG K E1 REq tt dt) (he : SoundG K E1 (Rep K) te de) : SoundG K E (Rep K) (tLc wi g tt te (own.map (·.2))) (dLc di dg dt de (own.map (·.2))) := fun R σ H δ η Z Φ Q l s h k => by
  refine hi R σ H δ η Z _ _ l s h (fun J ds G H1 η1 l1 x1 it h1 => ?_) k.ex
  intro D hD
  have itD := it (rup R D) (fun a ra => .inr ra) (fun a ra nr => by rcases ra with rfl | ra; (· exact hD); exact absurd ra nr)
  have sw := (s.up x1).wipe (own.map (·.2))
  refine ⟨fun i m H' => m = ds.length - i ∧ i ≤ ds.length ∧ ∃ η' acc xs, Lk K (rup R D) η' H' ∧ Ext η1 H1 η' H' ∧ Sl K (rup R D) η' H' (wipeD δ (own.map (·.2))) (L2.wipe σ (own.map (·.2))) ∧ H' D = some (.lst xs) ∧ Reps K (rup R D) η' H' xs acc ∧ dLcL dg dt de (wipeD δ (own.map (·.2))) Z G Φ (ds.drop i) acc η',
    ⟨ds.length, by simp, Nat.zero_le _, η1, [], [], l1.back hD, Ext.new hD, sw.back hD, upd_same, .nil, by simpa using h1⟩, ?_⟩
  rintro i m H' ⟨rfl, hi', η', acc, xs, l', x', s', hx, ra, h'⟩
  obtain ⟨st, go⟩ := itD η' H' l' x' (dLcL_G h')
  by_cases hlt : i < ds.length
  · obtain ⟨d, hd⟩ : ∃ d, ds[i]? = some d := ⟨ds[i], by simp [hlt]⟩
    obtain ⟨g1, g2⟩ := go i d hd
    have hdr : ds.drop i = d :: ds.drop (i + 1) := by
      rw [List.drop_eq_getElem_cons hlt]
      rw [List.getElem?_eq_getElem hlt] at hd
      rw [Option.some.inj hd]
    rw [hdr] at h'
    refine .inr ⟨g1, fun H2 => ∃ η' acc xs, Lk K (rup R D) η' H2 ∧ Ext η1 H1 η' H2 ∧ Sl K (rup R D) η' H2 (wipeD δ (own.map (·.2))) (L2.wipe σ (own.map (·.2))) ∧ H2 D = some (.lst xs) ∧ Reps K (rup R D) η' H2 xs acc ∧ dLcL dg dt de (wipeD δ (own.map (·.2))) Z G Φ (ds.drop (i + 1)) acc η', fun H2 n => ⟨ds.length - (i + 1), by omega, rfl, hlt, n⟩, fun x H2 y => ?_⟩
    obtain ⟨l2, ex2, r2⟩ := g2 x H2 y
    have x2 : Ext η' H' η' H2 := Ext.ex ex2
    have ow := fun Q' q' => ho x (L2.wipe σ (own.map (·.2))) H2 Q' q'
    rw [wipe_wipe] at ow
    refine ow _ ?_
    refine hg (rup R D) _ H2 _ η' x d _ _ l2 (s'.up x2) r2 h'.2 fun σ3 H3 δ3 η3 l3 x3 s3 h3 => ?_
    have x13 := (x'.trans x2).trans x3
    have nD : η' D = none := (l'.r D (.inl rfl)).2
    refine ht (rup R D) σ3 H3 δ3 η3 Z0 _ _ l3 s3 h3 ⟨fun b b' H4 η4 l4 x4 eb h4 => ?_, fun _ _ _ _ _ _ _ _ z => z.elim⟩
    obtain rfl : b = b' := eb
    have x14 := x13.trans x4
    have x24 := (x2.trans x3).trans x4
    cases b with
    | false =>
      have sw4 : Sl K (rup R D) η4 H4 (wipeD δ (own.map (·.2))) (L2.wipe σ (own.map (·.2))) := s'.up x24
      exact ⟨η4, acc, xs, l4, x14, sw4, x24.keep D _ nD hx, ra.up x24, h4⟩
    | true =>
      refine he (rup R D) σ3 H4 δ3 η4 Z0 _ _ l4 (s3.up x4) h4 ⟨fun v5 d5 H5 η5 l5 x5 r5 h5 => ?_, fun _ _ _ _ _ _ _ _ z => z.elim⟩
      have x25 := x24.trans x5
      have hx5 := x25.keep D _ nD hx
      refine ⟨xs, hx5, by rw [ra.length]; exact h5.1, η5, acc ++ [d5], xs ++ [v5], l5.put, ?_, (s'.up x25).put, upd_same, ?_, h5.2⟩
      · have x15 := x14.trans x5
        refine ⟨fun a o n e => ?_, x15.dom⟩
        rw [upd_ne (ne_of_none e hD)]
        exact x15.keep a o n e
      · exact (Reps.forth ne_ex _ _ ((ra.up x25).append (.cons r5 .nil))).2
  · have e : i = ds.length := by omega
    subst e
    rw [List.drop_length] at h'
    refine .inl ⟨st, k.ok _ _ H' η' l'.forth (x1.trans x') (.lst (.inl hx) (l'.r D (.inl rfl)).2 ((l1.nr hD)) (Reps.forth (fun _ _ _ h => h) _ _ ra).1) h'.2⟩
theorem pd_lc (hc : X.calm = true) (hN : X.N.Nodup) (hi : PDI X E tg iter wi di) (ok : BlkOk X.N X.env.scope scope own)
    (hg : ∀ (s : Shared) (H : Hp) (C : Addr) (cl : List (Str × Addr)) (fp : List Addr), PDG (X.blk s H scope (compEnvC scope cl C X.env) fp) tg g dg) (ho : OwnG g (own.map (·.2)))
    (ht : ∀ (s : Shared) (H : Hp) (C : Addr) (cl : List (Str × Addr)) (fp : List Addr), PDTs (X.blk s H scope (compEnvC scope cl C X.env) fp) E0 ifs tt dt)
    (he : ∀ (s : Shared) (H : Hp) (C : Addr) (cl : List (Str × Addr)) (fp : List Addr), PD (X.blk s H scope (compEnvC scope cl C X.env) fp) E0 elt te de) (hs : ∀ x, foldedSetIterable iter X.env x = pure x := by intro _; rfl) :
    PD X E (.ListComp elt [⟨tg, iter, ifs, 0⟩] scope pos) (tLc wi g tt te (own.map (·.2))) (dLc di dg dt de (own.map (·.2))) :=
  ⟨pe_lc hc hN hi.pi ok (fun s H C cl fp => (hg s H C cl fp).pg) (fun s H C cl fp => (ht s H C cl fp).pt) (fun s H C cl fp => (he s H C cl fp).pe) hs,
    so_lc hi.so (hg X.s_0 X.H_0 0 [] []).so ho (ht X.s_0 X.H_0 0 [] []).so (he X.s_0 X.H_0 0 [] []).so⟩
end
end DL
end
section
set_option Elab.async false
set_option linter.all false
set_option autoImplicit false
set_option maxRecDepth 100000
set_option maxHeartbeats 4000000
/-! DL3: defs and their calls. -/
namespace DL
open PySem PySem.Spec PyProof.Rows L2

/-- what a def does, over data: the arguments, the mutable objects, what follows (no exception leaves it) -/
abbrev Ct := List D → Eta → DK → Prop
def sp0 (K : PySem.W.Frag) (c : Ct) : Sp := fun vs H Q _ => ∃ (R : Addr → Prop) (η : Eta) (ds : List D) (Φ : DK), Lk K R η H ∧ Reps K R η H vs ds ∧ c ds η Φ ∧ ∀ v d H' η', Lk K R η' H' → Ext η H η' H' → Rep K R η' H' v d → Φ d η' → Q v H'
def dstart (N : List Str) (ds : List D) : DSt := ds.map some ++ List.replicate (N.length - ds.length) none
theorem sl_start {K : PySem.W.Frag} {R : Addr → Prop} {η : Eta} {H : Hp} {N : List Str} {vs : List V} {ds : List D} (r : Reps K R η H vs ds) : Sl K R η H (dstart N ds) (L2.start N vs) := by
  have hl := r.length
  refine ⟨by simp [dstart, L2.start, hl], fun i d h => ?_⟩
  unfold dstart at h
  unfold L2.start
  by_cases hi : i < ds.length
  · rw [List.getElem?_append_left (by simpa using hi), List.getElem?_map] at h
    cases e : ds[i]? with
    | none => rw [e] at h; cases h
    | some d' =>
      rw [e] at h
      cases h
      obtain ⟨v, hv, rv⟩ := r.get e
      exact ⟨v, by rw [List.getElem?_append_left (by rw [List.length_map, hl]; exact hi), List.getElem?_map, hv]; rfl, rv⟩
  · rw [List.getElem?_append_right (by simpa using hi), List.getElem?_replicate] at h
    split at h <;> cases h
abbrev Pend (Φ : DK) : DEnds := ⟨fun _ η => Φ .non η, Φ, fun _ _ => False, fun _ _ => False⟩
section
variable {P : Program} {w : World} {K : PySem.W.Frag} {mg : Str → Option Value} {base : Heap}
/-- a def of the text keeps its contract, by its body -/
theorem fn0 {x qual : Str} {st : Stmt} {f : Addr} {fd : FuncData} {N ps : List Str} {k : Nat} {c : Ct} (F : Fun K x qual st f fd) (S : FnScope N ps (defScope st)) (hlen : ∀ ds η Φ, c ds η Φ → ds.length = ps.length)
    (hb : ∀ (cdv : Value) (A : Around) (outer : List Env) (s : Shared) (H : Hp) (E : XK) (ds : List D) (η : Eta) (Φ : DK), Room k (A.deeper (envOfC qual (defScope st) s.heap.objs.size f cdv)) → c ds η Φ →
      ∃ ts t, PDSs (cxOf CX0 P w K mg base N qual (defScope st) f cdv A outer s H E).nox E0 (defBody st) ts t ∧ t Z0 (Pend Φ) (dstart N ds) η) : FnOk P w K mg base CX0 (k + 1) f fd ps (sp0 K c) := by
  refine F.ok S (fun vs H Q E h => ?_) fun cdv A outer s H vs Q E hr h => ?_
  · obtain ⟨R, η, ds, Φ, l, r, hc, _⟩ := h
    rw [r.length]; exact hlen ds η Φ hc
  · obtain ⟨R, η, ds, Φ, l, r, hc, q⟩ := h
    obtain ⟨ts, t, hp, ht⟩ := hb cdv A outer s H E ds η Φ hr hc
    refine ⟨ts, hp.ps, hp.so R _ H _ η Z0 _ _ l (sl_start r) ht ⟨fun σ' H' δ' η' l' x s' h' => q _ _ H' η' l' x .non h', fun v d H' η' l' x r' h' => q v d H' η' l' x r' h', fun _ _ _ _ _ _ _ h' => h'.elim, fun _ _ _ _ _ _ _ h' => h'.elim, fun _ _ _ _ _ _ _ _ h' => h'.elim⟩⟩
end
section
variable {X : Cx} {E : XK} {k : Nat} {f : Addr} {fd : FuncData} {ps : List Str} {c : Ct} {dvs : List V} {dds : List D} {dsV : List Value} {x : Str} {p pos : Pos} {e : Expr} {es : List Expr} {ta : TA} {da : DA}
def dCall (c : Ct) (dds : List D) (da : DA) : DE := fun Z δ η Φ => da Z δ η fun ds η1 => c (ds ++ dds) η1 Φ
theorem so_call {K : PySem.W.Frag} {E1 : XK} (hd : ∀ R η H, Reps K R η H dvs dds) (ha : SoundG K E (Reps K) ta da) : SoundG K E (Rep K) (tCall (sp0 K c) dvs E1 ta) (dCall c dds da) := fun R σ H δ η Z Φ Q l s h k => by
  refine ha R σ H δ η Z _ _ l s h (k.to fun vs ds H1 η1 l1 x1 r1 h1 => ?_)
  exact ⟨R, η1, ds ++ dds, Φ, l1, r1.append (hd _ _ _), h1, fun v d H' η' l' x' r' h' => k.ok v d H' η' l' (x1.trans x') r' h'⟩
theorem so_nil {K : PySem.W.Frag} : SoundG K E (Reps K) tNil dNil := fun R σ H δ η Z Φ Q l s h k => k.ok [] [] H η l (Ext.refl _ _) .nil h
theorem pd_call (F : FnOk X.prog X.w X.K X.mg X.base CX0 k f fd ps (sp0 X.K c)) (hr : Room k X.A) (hg : Gl X x) (hm : X.mg x = some (.ref f)) (hk : PySem.W.keepIn X.K (.ref f) = true) (hb : Binds X.K fd ps dsV) (hv : Vals dvs dsV) (hd : ∀ R η H, Reps X.K R η H dvs dds)
    (ha : PDA X E (e :: es) ta da) (hdb : (x == ("__debug__" : Str)) = false := by decide) (he : starEach (e :: es) X.env = (false, eval e X.env) :: starEach es X.env := by rfl) (hpl : (backTo pos (starEach es X.env)).any (·.1) = false := by rfl) :
    PD X E (.Call (.Name x p) (e :: es) [] pos) (tCall (sp0 X.K c) dvs E0 ta) (dCall c dds da) := ⟨pe_call F hr hg hm hk hb hv pass0 ha.pa hdb he hpl, so_call hd ha.so⟩
theorem pd_call0 (F : FnOk X.prog X.w X.K X.mg X.base CX0 k f fd ps (sp0 X.K c)) (hr : Room k X.A) (hg : Gl X x) (hm : X.mg x = some (.ref f)) (hk : PySem.W.keepIn X.K (.ref f) = true) (hb : Binds X.K fd ps dsV) (hv : Vals dvs dsV) (hd : ∀ R η H, Reps X.K R η H dvs dds)
    (hdb : (x == ("__debug__" : Str)) = false := by decide) : PD X E (.Call (.Name x p) [] [] pos) (tCall (sp0 X.K c) dvs E0 tNil) (dCall c dds dNil) := ⟨pe_call0 F hr hg hm hk hb hv pass0 hdb, so_call hd so_nil⟩
end
end DL
end
section
set_option Elab.async false
set_option linter.all false
set_option autoImplicit false
set_option maxRecDepth 100000
set_option maxHeartbeats 4000000
/-! DL4: operations over data. -/
namespace DL
open PySem PySem.Spec PyProof.Rows L2

/-! ### texts -/
theorem sok_append {a b : Str} (ha : SOk a) (hb : SOk b) (h : a.length + b.length ≤ sizeLine) : SOk (a ++ b) := by
  refine ⟨?_, ?_⟩
  · show PyData.strOk ⟨a.cps ++ b.cps⟩ = true
    have h1 := ha.cp
    have h2 := hb.cp
    unfold PyData.strOk at *
    rw [Array.all_append, h1, h2]
    rfl
  · show (a.cps ++ b.cps).size ≤ _
    rw [Array.size_append]
    exact h
theorem sok_sub {a : Str} {l : List Nat} (ha : SOk a) (h : ∀ c ∈ l, c ∈ a.cps.toList) (hl : l.length ≤ sizeLine) : SOk ⟨l.toArray⟩ := by
  refine ⟨?_, by show l.toArray.size ≤ _; simpa using hl⟩
  have h1 := ha.cp
  unfold PyData.strOk at *
  rw [Array.all_eq_true'] at *
  intro c hc
  exact h1 c (Array.mem_toList_iff.mp (h c (by simpa using hc)))
theorem sok_one {a : Str} {c : Nat} (ha : SOk a) (h : c ∈ a.cps.toList) : SOk ⟨#[c]⟩ :=
  sok_sub (l := [c]) ha (fun d hd => by rw [List.mem_singleton.mp hd]; exact h) (by rw [sizeLine_eq]; show 1 ≤ 16777216; omega)

/-! ### data for == -/
mutual
def toPy : D → PyData
  | .non => .none
  | .bl b => .bool b
  | .int i => .int i
  | .str x => .str x
  | .lst xs => .list (toPys xs)
  | .tup xs => .tuple (toPys xs)
  | .ref _ => .none
  | .obj _ _ _ => .none
  | .dct _ _ => .none
  | .ty _ => .none
  | .klst _ => .none
def toPys : List D → List PyData
  | [] => []
  | d :: ds => toPy d :: toPys ds
end
mutual
def pyOk : D → Bool
  | .non => true
  | .bl _ => true
  | .int _ => true
  | .str _ => true
  | .lst xs => pyOks xs
  | .tup xs => pyOks xs
  | .ref _ => false
  | .obj _ _ _ => false
  | .dct _ _ => false
  | .ty _ => false
  | .klst _ => false
def pyOks : List D → Bool
  | [] => true
  | d :: ds => pyOk d && pyOks ds
end
def unref (η : Eta) : D → D
  | .ref p => match η p with
    | some (.lst ds) => .lst ds
    | _ => .ref p
  | d => d
theorem toPys_eq : ∀ ds : List D, toPys ds = ds.map toPy
  | [] => rfl
  | d :: ds => by rw [toPys, List.map_cons, toPys_eq ds]
theorem pyOks_eq : ∀ ds : List D, pyOks ds = ds.all pyOk
  | [] => rfl
  | d :: ds => by rw [pyOks, List.all_cons, pyOks_eq ds]
section
variable {K : PySem.W.Frag} {R : Addr → Prop} {η : Eta} {H : Hp}
mutual
theorem rep_dp : ∀ (d : D) (v : V), Rep K R η H v d → pyOk d = true → Dp K H v (toPy d) ∧ (toPy d).canLay0 = true
  | .non, _, h, _ => by cases h; exact ⟨.non, by simp [toPy, PyData.canLay0]⟩
  | .bl _, _, h, _ => by cases h; exact ⟨.bl _, by simp [toPy, PyData.canLay0]⟩
  | .int _, _, h, _ => by cases h; exact ⟨.int _, by simp [toPy, PyData.canLay0]⟩
  | .str _, _, h, _ => by cases h with | str a => exact ⟨.str _, by simp [toPy, PyData.canLay0, a.cp]⟩
  | .lst ds, _, h, o => by
    obtain ⟨a, xs, rfl, hq, rs⟩ := h.sqL
    obtain ⟨h1, h2⟩ := reps_dp ds xs rs (by simpa [pyOk] using o)
    exact ⟨.lst hq h1, by simpa [toPy, PyData.canLay0] using h2⟩
  | .tup ds, _, h, o => by
    obtain ⟨a, xs, rfl, hq, rs⟩ := h.sqT
    obtain ⟨h1, h2⟩ := reps_dp ds xs rs (by simpa [pyOk] using o)
    exact ⟨.tup hq h1, by simpa [toPy, PyData.canLay0] using h2⟩
  | .ref _, _, _, o => by simp [pyOk] at o
  | .obj _ _ _, _, _, o => by simp [pyOk] at o
  | .dct _ _, _, _, o => by simp [pyOk] at o
  | .ty _, _, _, o => by simp [pyOk] at o
  | .klst _, _, _, o => by simp [pyOk] at o
theorem reps_dp : ∀ (ds : List D) (vs : List V), Reps K R η H vs ds → pyOks ds = true → DpAll K H vs (toPys ds) ∧ PyData.canLayAll0 (toPys ds) = true
  | [], _, h, _ => by cases h; exact ⟨.nil, by simp [toPys, PyData.canLayAll0]⟩
  | d :: ds, _, h, o => by
    cases h with
    | cons a b =>
      simp only [pyOks, Bool.and_eq_true] at o
      obtain ⟨h1, h2⟩ := rep_dp d _ a o.1
      obtain ⟨h3, h4⟩ := reps_dp ds _ b o.2
      exact ⟨.cons h1 h3, by simp [toPys, PyData.canLayAll0, h2, h4]⟩
end
theorem unref_ref (η : Eta) (p : Addr) : (∃ ds, η p = some (.lst ds) ∧ unref η (.ref p) = .lst ds) ∨ unref η (.ref p) = .ref p := by
  cases e : η p with
  | none => exact .inr (by simp [unref, e])
  | some m =>
    cases m with
    | lst ds => exact .inl ⟨ds, rfl, by simp [unref, e]⟩
    | _ => exact .inr (by simp [unref, e])
theorem dp_of {v : V} {d : D} (l : Lk K R η H) (r : Rep K R η H v d) (o : pyOk (unref η d) = true) : Dp K H v (toPy (unref η d)) ∧ (toPy (unref η d)).canLay0 = true := by
  cases d with
  | ref p =>
    rcases unref_ref η p with ⟨ds, e, e2⟩ | e2
    · rw [e2] at o ⊢
      cases r
      obtain ⟨xs, h1, h2⟩ := l.m p _ e
      obtain ⟨h3, h4⟩ := reps_dp ds xs h2 (by simpa [pyOk] using o)
      exact ⟨.lst (SqL.of h1) h3, by simpa [toPy, PyData.canLay0] using h4⟩
    · rw [e2] at o; simp [pyOk] at o
  | _ => exact rep_dp _ _ r o
/-- what can be walked as a list or a tuple -/
def asS (η : Eta) : D → Option (List D)
  | .lst xs => some xs
  | .tup xs => some xs
  | .ref p => match η p with
    | some (.lst xs) => some xs
    | _ => none
  | _ => none
theorem asL_ref {p : Addr} {ds : List D} (h : asL η (.ref p) = some ds) : η p = some (.lst ds) := by
  cases e : η p with
  | none => simp [asL, e] at h
  | some m =>
    cases m with
    | lst xs => simp [asL, e] at h; rw [h]
    | _ => simp [asL, e] at h
theorem asS_ref {p : Addr} {ds : List D} (h : asS η (.ref p) = some ds) : η p = some (.lst ds) := by
  cases e : η p with
  | none => simp [asS, e] at h
  | some m =>
    cases m with
    | lst xs => simp [asS, e] at h; rw [h]
    | _ => simp [asS, e] at h
theorem asL_ok {v : V} {d : D} {ds : List D} (l : Lk K R η H) (r : Rep K R η H v d) (h : asL η d = some ds) : ∃ a xs, v = .ref a ∧ Rd H a (.lst xs) ∧ Reps K R η H xs ds := by
  cases d with
  | lst xs => cases h; exact r.rdL
  | ref p =>
    cases r
    obtain ⟨ys, h1, h2⟩ := l.m p _ (asL_ref h)
    exact ⟨p, ys, rfl, .inl h1, h2⟩
  | _ => cases h
theorem asS_ok {v : V} {d : D} {ds : List D} (l : Lk K R η H) (r : Rep K R η H v d) (h : asS η d = some ds) : ∃ a xs, v = .ref a ∧ (SqL K H a xs ∨ SqT K H a xs) ∧ Reps K R η H xs ds := by
  cases d with
  | lst xs => cases h; obtain ⟨a, xs, e, q, s⟩ := r.sqL; exact ⟨a, xs, e, .inl q, s⟩
  | tup xs => cases h; obtain ⟨a, xs, e, q, s⟩ := r.sqT; exact ⟨a, xs, e, .inr q, s⟩
  | ref p =>
    cases r
    obtain ⟨ys, h1, h2⟩ := l.m p _ (asS_ref h)
    exact ⟨p, ys, rfl, .inl (SqL.of h1), h2⟩
  | _ => cases h
/-- a new list, a new tuple -/
theorem new_lst {vs : List V} {ds : List D} {Φ : DK} {Q : VK} (l : Lk K R η H) (r : Reps K R η H vs ds) (h : Φ (.lst ds) η) (k : ∀ v d H' η', Lk K R η' H' → Ext η H η' H' → Rep K R η' H' v d → Φ d η' → Q v H') : ∀ p, H p = none → Q (.ref p) (upd H p (.lst vs)) := fun p hp =>
  k _ _ _ η (l.new hp) (Ext.new hp) (.lst (.inl upd_same) (l.free hp) (l.nr hp) (r.up (Ext.new hp))) h
theorem new_lstM {vs : List V} {ds : List D} {Φ : DK} {Q : VK} (l : Lk K R η H) (r : Reps K R η H vs ds) (h : ∀ p, η p = none → Φ (.ref p) (eup η p (.lst ds))) (k : ∀ v d H' η', Lk K R η' H' → Ext η H η' H' → Rep K R η' H' v d → Φ d η' → Q v H') : ∀ p, H p = none → Q (.ref p) (upd H p (.lst vs)) := fun p hp =>
  k _ _ _ _ (l.newM (m := .lst ds) hp ⟨vs, upd_same, r.up (Ext.newM hp)⟩) (Ext.newM hp) (.ref p) (h p (l.free hp))
theorem new_tup {vs : List V} {ds : List D} {Φ : DK} {Q : VK} (l : Lk K R η H) (r : Reps K R η H vs ds) (h : Φ (.tup ds) η) (k : ∀ v d H' η', Lk K R η' H' → Ext η H η' H' → Rep K R η' H' v d → Φ d η' → Q v H') : ∀ p, H p = none → Q (.ref p) (upd H p (.tup vs)) := fun p hp =>
  k _ _ _ η (l.new hp) (Ext.new hp) (.tup (.inl upd_same) (l.free hp) (l.nr hp) (r.up (Ext.new hp))) h
end
def dEqv (a b : D) : Bool := PyData.eqv (toPy a) (toPy b)
def dDep (a b : D) : Prop := min (toPy a).depth (toPy b).depth ≤ 60

theorem OpR.or {X : Cx} {f : Value → Value → Sem Value} {r r' : R2} (h : OpR X f r) (h' : OpR X f r') : OpR X f (fun x y H Q => r x y H Q ∨ r' x y H Q) := by
  intro pins s σ H x y v u Q I rx ry q
  rcases q with q | q
  · exact h pins s σ H x y v u Q I rx ry q
  · exact h' pins s σ H x y v u Q I rx ry q

section
variable {X : Cx}
/-! ### == and != -/
def rEqG (K : PySem.W.Frag) : R2 := fun x y H Q => ∃ d e, Dp K H x d ∧ Dp K H y e ∧ d.canLay0 = true ∧ e.canLay0 = true ∧ min d.depth e.depth ≤ 60 ∧ Q (.bl (PyData.eqv d e)) H
def rNeG (K : PySem.W.Frag) : R2 := fun x y H Q => ∃ d e, Dp K H x d ∧ Dp K H y e ∧ d.canLay0 = true ∧ e.canLay0 = true ∧ min d.depth e.depth ≤ 60 ∧ Q (.bl (!PyData.eqv d e)) H
theorem op_eqG (hu : X.A.units + 64 < cLine) : OpR X (compareOp .Eq) (rEqG X.K) := by
  intro pins s σ H x y v u Q I rx ry h
  obtain ⟨d, e, hd, he, sd, se, hm, q⟩ := h
  obtain ⟨as, r1⟩ := Dp.reads I d x v hd rx
  obtain ⟨bs, r2⟩ := Dp.reads I e y u he ry
  exact SeqAt.compareEq_reads r1 r2 sd se (by omega) ⟨.bl _, H, I, rfl, q⟩
theorem op_neG (hu : X.A.units + 64 < cLine) : OpR X (compareOp .NotEq) (rNeG X.K) := by
  intro pins s σ H x y v u Q I rx ry h
  obtain ⟨d, e, hd, he, sd, se, hm, q⟩ := h
  obtain ⟨as, r1⟩ := Dp.reads I d x v hd rx
  obtain ⟨bs, r2⟩ := Dp.reads I e y u he ry
  exact SeqAt.compareNe_reads r1 r2 sd se (by omega) ⟨.bl _, H, I, rfl, q⟩
def oEq : DR2 := fun x y η Φ => pyOk (unref η x) = true ∧ pyOk (unref η y) = true ∧ dDep (unref η x) (unref η y) ∧ Φ (.bl (dEqv (unref η x) (unref η y))) η
def oNe : DR2 := fun x y η Φ => pyOk (unref η x) = true ∧ pyOk (unref η y) = true ∧ dDep (unref η x) (unref η y) ∧ Φ (.bl (!dEqv (unref η x) (unref η y))) η
theorem od_eq (hu : X.A.units + 64 < cLine) : OpD X (compareOp .Eq) (rEqG X.K) oEq := ⟨op_eqG hu, fun R η H x y dx dy Φ Q l rx ry h k => by
  obtain ⟨o1, o2, o3, h⟩ := h
  obtain ⟨h1, h2⟩ := dp_of l rx o1
  obtain ⟨h3, h4⟩ := dp_of l ry o2
  exact ⟨_, _, h1, h3, h2, h4, o3, k _ _ H η l (Ext.refl _ _) (.bl _) h⟩⟩
theorem od_ne (hu : X.A.units + 64 < cLine) : OpD X (compareOp .NotEq) (rNeG X.K) oNe := ⟨op_neG hu, fun R η H x y dx dy Φ Q l rx ry h k => by
  obtain ⟨o1, o2, o3, h⟩ := h
  obtain ⟨h1, h2⟩ := dp_of l rx o1
  obtain ⟨h3, h4⟩ := dp_of l ry o2
  exact ⟨_, _, h1, h3, h2, h4, o3, k _ _ H η l (Ext.refl _ _) (.bl _) h⟩⟩

/-! ### ints -/
def oI (C : Int → Int → Prop) (g : Int → Int → D) : DR2 := fun x y η Φ => ∃ i j, x = .int i ∧ y = .int j ∧ C i j ∧ Φ (g i j) η
def CT : Int → Int → Prop := fun _ _ => True
theorem so_I {K : PySem.W.Frag} {C : Int → Int → Prop} {g : Int → Int → V} {gd : Int → Int → D} (hg : ∀ i j R η H, Rep K R η H (g i j) (gd i j)) : SoundR2 K (rI C g) (oI C gd) := fun R η H x y dx dy Φ Q l rx ry h k => by
  obtain ⟨i, j, rfl, rfl, hc, h⟩ := h
  cases rx
  cases ry
  exact ⟨i, j, rfl, rfl, hc, k _ _ H η l (Ext.refl _ _) (hg i j R η H) h⟩
theorem rI0_of {f : Value → Value → Sem Value} {g : Int → Int → V} (h : OpR X f (rI0 g)) : OpR X f (rI CT g) := fun pins s σ H x y v u Q I rx ry q => by
  obtain ⟨i, j, e1, e2, _, q⟩ := q
  exact h pins s σ H x y v u Q I rx ry ⟨i, j, e1, e2, q⟩
theorem od_sub : OpD X (binaryOp .Sub) (rI CT fun i j => .int (i - j)) (oI CT fun i j => .int (i - j)) := ⟨rI0_of op_sub, so_I fun _ _ _ _ _ => .int _⟩
theorem od_fdiv : OpD X (binaryOp .FloorDiv) (rI CDivW fun i j => .int (i / j)) (oI CDivW fun i j => .int (i / j)) := ⟨op_fdivW, so_I fun _ _ _ _ _ => .int _⟩
theorem od_mod : OpD X (binaryOp .Mod) (rI (fun _ j => 0 < j) fun i j => .int (i % j)) (oI (fun _ j => 0 < j) fun i j => .int (i % j)) := ⟨op_mod, so_I fun _ _ _ _ _ => .int _⟩
theorem od_pow : OpD X (binaryOp .Pow) (rI CPow fun i j => .int (i ^ j.toNat)) (oI CPow fun i j => .int (i ^ j.toNat)) := ⟨op_pow, so_I fun _ _ _ _ _ => .int _⟩
def CMulU (i j : Int) : Prop := CMul i j ∨ CMulW i j
theorem op_mulU : OpR X (binaryOp .Mult) (rI CMulU fun i j => .int (i * j)) := fun pins s σ H x y v u Q I rx ry q => by
  obtain ⟨i, j, e1, e2, hc, q⟩ := q
  rcases hc with hc | hc
  · exact op_mul pins s σ H x y v u Q I rx ry ⟨i, j, e1, e2, hc, q⟩
  · exact op_mulW pins s σ H x y v u Q I rx ry ⟨i, j, e1, e2, hc, q⟩
def rRepR : R2 := fun x y H Q => ∃ l k xs, x = .ref l ∧ y = .int k ∧ H l = some (.lst xs) ∧ -(2 ^ 63) ≤ k ∧ k < 2 ^ 63 ∧ xs.length * k.toNat ≤ sizeLine ∧
  ∀ p, H p = none → Q (.ref p) (upd H p (.lst (List.replicate k.toNat xs).flatten))
def oMul : DR2 := oI CMulU fun i j => .int (i * j)
theorem od_mul : OpD X (binaryOp .Mult) (rI CMulU fun i j => .int (i * j)) oMul := ⟨op_mulU, so_I fun _ _ _ _ _ => .int _⟩
theorem od_lt : OpD X (compareOp .Lt) (rI CT fun i j => .bl (decide (i < j))) (oI CT fun i j => .bl (decide (i < j))) := ⟨rI0_of op_lt, so_I fun _ _ _ _ _ => .bl _⟩
theorem od_le : OpD X (compareOp .LtE) (rI CT fun i j => .bl (decide (i ≤ j))) (oI CT fun i j => .bl (decide (i ≤ j))) := ⟨rI0_of op_le, so_I fun _ _ _ _ _ => .bl _⟩
theorem od_gt : OpD X (compareOp .Gt) (rI CT fun i j => .bl (decide (j < i))) (oI CT fun i j => .bl (decide (j < i))) := ⟨rI0_of op_gt, so_I fun _ _ _ _ _ => .bl _⟩
theorem od_ge : OpD X (compareOp .GtE) (rI CT fun i j => .bl (decide (j ≤ i))) (oI CT fun i j => .bl (decide (j ≤ i))) := ⟨rI0_of op_ge, so_I fun _ _ _ _ _ => .bl _⟩
def ipIC (C : Int → Int → Prop) (f : Int → Int → Int) : TIp := rI C fun i j => .int (f i j)
theorem ipd_add : IpD X .Add (rI CT fun i j => .int (i + j)) (oI CT fun i j => .int (i + j)) := ⟨fun pins s σ H x y v u Q I r1 r2 h => rI0_of iop_add pins s σ H x y v u Q I r1 r2 h, so_I fun _ _ _ _ _ => .int _⟩
theorem ipd_sub : IpD X .Sub (rI CT fun i j => .int (i - j)) (oI CT fun i j => .int (i - j)) := ⟨fun pins s σ H x y v u Q I r1 r2 h => rI0_of iop_sub pins s σ H x y v u Q I r1 r2 h, so_I fun _ _ _ _ _ => .int _⟩
theorem iop_mulU : OpR X (inplaceOp .Mult) (rI CMulU fun i j => .int (i * j)) := opI fun i j _ _ _ _ _ hc q => by
  rcases hc with hc | hc
  · exact imul_int q hc.ok
  · exact imul_int q hc.ok
theorem ipd_mul : IpD X .Mult (rI CMulU fun i j => .int (i * j)) (oI CMulU fun i j => .int (i * j)) := ⟨fun pins s σ H x y v u Q I r1 r2 h => iop_mulU pins s σ H x y v u Q I r1 r2 h, so_I fun _ _ _ _ _ => .int _⟩
def oNeg : D → Eta → DK → Prop := fun x η Φ => ∃ i, x = .int i ∧ Φ (.int (-i)) η
def dUn (o : D → Eta → DK → Prop) (de : DE) : DE := fun Z δ η Φ => de Z δ η fun x η1 => o x η1 Φ
theorem pd_neg {E : XK} {a : Expr} {ta : TE} {da : DE} {pos : Pos} (ha : PD X E a ta da) : PD X E (.UnaryOp .USub a pos) (tUn (rU fun i => .int (-i)) ta) (dUn oNeg da) := ⟨pe_un un_neg ha.pe, fun R σ H δ η Z Φ Q l s h k => by
  refine ha.so R σ H δ η Z _ _ l s h (k.to fun v1 d1 H1 η1 l1 e1 r1 h1 => ?_)
  obtain ⟨i, rfl, h1⟩ := h1
  cases r1
  exact ⟨i, rfl, k.ok _ _ H1 η1 l1 e1 (.int _) h1⟩⟩

/-! ### + -/
theorem Inv.lstR {pins : List (Addr × Obj)} {σ : L2.St} {H : Hp} {s : Shared} {l : Addr} {xs : List V} (I : Inv X pins σ H s) (hH : Rd H l (.lst xs)) : xs.length ≤ sizeLine ∧ ∃ (its : List Value) (n : Nat), Vals xs its ∧ xs.length = its.length ∧ s.heap.get? l = some { cls := .type "list", data := .seq its.toArray n } := by
  obtain ⟨z, its, n, r, e⟩ := hH.ok I.hok
  exact ⟨z, its, n, r, r.length, e⟩
def rCatR : R2 := fun x y H Q => ∃ l b xs zs, x = .ref l ∧ y = .ref b ∧ Rd H l (.lst xs) ∧ Rd H b (.lst zs) ∧ xs.length + zs.length ≤ sizeLine ∧ ∀ p, H p = none → Q (.ref p) (upd H p (.lst (xs ++ zs)))
theorem op_catR : OpR X (binaryOp .Add) rCatR := by
  intro pins s σ H x y v u Q I rx ry h
  obtain ⟨l, b, xs, zs, rfl, rfl, hH, hB, hz, q⟩ := h
  cases rx
  cases ry
  obtain ⟨z, its, n, r, hl, e⟩ := Inv.lstR I hH
  obtain ⟨z2, its2, n2, r2, hl2, e2⟩ := Inv.lstR I hB
  refine PySem.P.add_list e e2 ?_ (by rw [List.size_toArray, List.size_toArray]; omega)
  have ea : its.toArray ++ its2.toArray = (its ++ its2).toArray := by simp
  rw [ea]
  exact ⟨.ref _, _, I.lnew (t' := s.toks) (r.append r2) (by rw [List.length_append]; omega), rfl, q _ I.fresh⟩
def rAddStr : R2 := fun x y H Q => ∃ i j, x = .str i ∧ y = .str j ∧ i.length + j.length ≤ sizeLine ∧ Q (.str (i ++ j)) H
def rAddU (K : PySem.W.Frag) : R2 := fun x y H Q => (((rI CT fun i j => .int (i + j)) x y H Q ∨ rAddStr x y H Q) ∨ rCatR x y H Q) ∨ rCatA K x y H Q
theorem op_addU : OpR X (binaryOp .Add) (rAddU X.K) := OpR.or (OpR.or (OpR.or (rI0_of op_add) op_add_str) op_catR) op_catA
def oAdd : DR2 := fun x y η Φ => match x, y with
  | .int i, .int j => Φ (.int (i + j)) η
  | .str a, .str b => a.length + b.length ≤ sizeLine ∧ Φ (.str (a ++ b)) η
  | .tup a, .tup b => a.length + b.length ≤ sizeLine ∧ Φ (.tup (a ++ b)) η
  | .lst a, .lst b => a.length + b.length ≤ sizeLine ∧ Φ (.lst (a ++ b)) η
  | x, y => ∃ a b, asL η x = some a ∧ asL η y = some b ∧ a.length + b.length ≤ sizeLine ∧ Φ (.lst (a ++ b)) η
theorem so_cat {K : PySem.W.Frag} {R : Addr → Prop} {η : Eta} {H : Hp} {x y : V} {dx dy : D} {Φ : DK} {Q : VK} (l : Lk K R η H) (rx : Rep K R η H x dx) (ry : Rep K R η H y dy) (h : ∃ a b, asL η dx = some a ∧ asL η dy = some b ∧ a.length + b.length ≤ sizeLine ∧ Φ (.lst (a ++ b)) η)
    (k : ∀ v d H' η', Lk K R η' H' → Ext η H η' H' → Rep K R η' H' v d → Φ d η' → Q v H') : rAddU K x y H Q := by
  obtain ⟨a, b, ha, hb, hl, h⟩ := h
  obtain ⟨p, xs, rfl, h1, h2⟩ := asL_ok l rx ha
  obtain ⟨q, ys, rfl, h3, h4⟩ := asL_ok l ry hb
  exact .inl (.inr ⟨p, q, xs, ys, rfl, rfl, h1, h3, by rw [h2.length, h4.length]; exact hl, new_lst l (h2.append h4) h k⟩)
theorem od_add : OpD X (binaryOp .Add) (rAddU X.K) oAdd := ⟨op_addU, fun R η H x y dx dy Φ Q l rx ry h k => by
  unfold oAdd at h
  split at h
  · cases rx; cases ry
    exact .inl (.inl (.inl ⟨_, _, rfl, rfl, True.intro, k _ _ H η l (Ext.refl _ _) (.int _) h⟩))
  · cases rx with
    | str o1 =>
      cases ry with
      | str o2 => exact .inl (.inl (.inr ⟨_, _, rfl, rfl, h.1, k _ _ H η l (Ext.refl _ _) (.str (sok_append o1 o2 h.1)) h.2⟩))
  · obtain ⟨p, xs, rfl, h1, h2⟩ := rx.sqT
    obtain ⟨q, ys, rfl, h3, h4⟩ := ry.sqT
    refine .inr ⟨p, q, xs, ys, rfl, rfl, h1, h3, by rw [h2.length, h4.length]; exact h.1, fun e => ?_, fun e1 e => ?_, fun _ _ => new_tup l (h2.append h4) h.2 k⟩
    · have := h2.nil_iff.mp e
      subst this
      exact k _ _ H η l (Ext.refl _ _) ry h.2
    · have := h4.nil_iff.mp e
      subst this
      rw [List.append_nil] at h
      exact k _ _ H η l (Ext.refl _ _) rx h.2
  · exact so_cat l rx ry ⟨_, _, rfl, rfl, h⟩ k
  · exact so_cat l rx ry h k⟩

/-! ### xs[i] -/
def rIxU (K : PySem.W.Frag) : R2 := rIx K
def oIx : DR2 := fun x y η Φ => match x, y with
  | .str a, .int i => ∃ c, atI a.cps.toList i = some c ∧ Φ (.str ⟨#[c]⟩) η
  | x, .int i => ∃ xs d, asS η x = some xs ∧ atI xs i = some d ∧ Φ d η
  | _, _ => False
theorem Reps.atI {K : PySem.W.Frag} {R : Addr → Prop} {η : Eta} {H : Hp} {vs : List V} {ds : List D} {i : Int} {d : D} (r : Reps K R η H vs ds) (h : L2.atI ds i = some d) : ∃ v, L2.atI vs i = some v ∧ Rep K R η H v d := by
  unfold L2.atI at *
  rw [r.length]
  cases e : ixN ds.length i with
  | none => rw [e] at h; cases h
  | some j =>
    rw [e] at h
    obtain ⟨v, h1, h2⟩ := r.get (i := j) (d := d) h
    exact ⟨v, h1, h2⟩
theorem atI_mem {α : Type} {xs : List α} {i : Int} {x : α} (h : L2.atI xs i = some x) : x ∈ xs := by
  obtain ⟨j, _, h, _⟩ := atI_get h
  exact List.mem_of_getElem? h
theorem so_ix {K : PySem.W.Frag} {R : Addr → Prop} {η : Eta} {H : Hp} {x : V} {dx : D} {i : Int} {Φ : DK} {Q : VK} (l : Lk K R η H) (rx : Rep K R η H x dx) (h : ∃ xs d, asS η dx = some xs ∧ L2.atI xs i = some d ∧ Φ d η)
    (k : ∀ v d H' η', Lk K R η' H' → Ext η H η' H' → Rep K R η' H' v d → Φ d η' → Q v H') : rIxU K x (.int i) H Q := by
  obtain ⟨xs, d, h1, h2, h⟩ := h
  obtain ⟨a, vs, rfl, h3, h4⟩ := asS_ok l rx h1
  obtain ⟨v, h5, h6⟩ := h4.atI h2
  rcases h3 with h3 | h3
  · exact .inl ⟨a, vs, i, v, rfl, rfl, h3, h5, k _ _ H η l (Ext.refl _ _) h6 h⟩
  · exact .inr (.inl ⟨a, vs, i, v, rfl, rfl, h3, h5, k _ _ H η l (Ext.refl _ _) h6 h⟩)
theorem ixd : IxD X (rIxU X.K) oIx := ⟨ix_seq, fun R η H x y dx dy Φ Q l rx ry h k => by
  unfold oIx at h
  split at h
  · obtain ⟨c, hc, h⟩ := h
    cases rx with
    | str o =>
      cases ry
      exact .inr (.inr ⟨_, _, c, rfl, rfl, o.len, hc, k _ _ H η l (Ext.refl _ _) (.str (sok_one o (atI_mem hc))) h⟩)
  · cases ry
    exact so_ix l rx h k
  · exact h.elim⟩

/-! ### slices -/
def cutD (xs : List D) (lo hi : Option Int) : List D := (xs.drop (HT.sIx xs.length 0 lo)).take (HT.sIx xs.length xs.length hi - HT.sIx xs.length 0 lo)
def rSlU (K : PySem.W.Frag) : RSl := fun x lo hi H Q => (rSlL K x lo hi H Q ∨ rSlA K x lo hi H Q) ∨ ∃ z, x = .str z ∧ z.length ≤ sizeLine ∧ Q (.str (cutS z lo hi)) H
def oSl : DSl := fun x lo hi η Φ => match x with
  | .str z => Φ (.str (cutS z lo hi)) η
  | .tup xs => Φ (.tup (cutD xs lo hi)) η
  | .lst xs => Φ (.lst (cutD xs lo hi)) η
  | .klst xs => Φ (.lst (cutD xs lo hi)) η
  | x => ∃ xs, asL η x = some xs ∧ Φ (.lst (cutD xs lo hi)) η
theorem Reps.cut {K : PySem.W.Frag} {R : Addr → Prop} {η : Eta} {H : Hp} {vs : List V} {ds : List D} {lo hi : Option Int} (r : Reps K R η H vs ds) : Reps K R η H (cutV vs lo hi) (cutD ds lo hi) := by
  unfold cutV cutD
  rw [r.length]
  exact (r.drop _).take _
theorem so_slL {K : PySem.W.Frag} {R : Addr → Prop} {η : Eta} {H : Hp} {x : V} {dx : D} {lo hi : Option Int} {Φ : DK} {Q : VK} (l : Lk K R η H) (rx : Rep K R η H x dx) (h : ∃ xs, asL η dx = some xs ∧ Φ (.lst (cutD xs lo hi)) η)
    (k : ∀ v d H' η', Lk K R η' H' → Ext η H η' H' → Rep K R η' H' v d → Φ d η' → Q v H') : rSlU K x lo hi H Q := by
  obtain ⟨xs, h1, h⟩ := h
  obtain ⟨a, vs, rfl, h3, h4⟩ := asL_ok l rx h1
  exact .inl (.inl ⟨a, vs, rfl, .inl h3, new_lst l h4.cut h k⟩)
theorem cutS_cps (z : Str) (lo hi : Option Int) : ∃ l : List Nat, cutS z lo hi = ⟨l.toArray⟩ ∧ (∀ c ∈ l, c ∈ z.cps.toList) ∧ l.length ≤ z.length := by
  refine ⟨(z.cps.toList.drop (HT.sIx z.length 0 lo)).take (HT.sIx z.length z.length hi - HT.sIx z.length 0 lo), rfl, fun c hc => List.mem_of_mem_drop (List.mem_of_mem_take hc), ?_⟩
  rw [List.length_take, List.length_drop]
  show _ ≤ z.cps.size
  simp only [Array.length_toList]
  omega
theorem sld : SlD X (rSlU X.K) oSl := ⟨sl_list.or sl_tupA |>.or sl_str, fun R η H x dx lo hi Φ Q l rx h k => by
  unfold oSl at h
  split at h
  · cases rx with
    | str o =>
      refine .inr ⟨_, rfl, o.len, k _ _ H η l (Ext.refl _ _) (.str ?_) h⟩
      obtain ⟨l, e, h1, h2⟩ := cutS_cps _ lo hi
      rw [e]
      exact sok_sub o h1 (Nat.le_trans h2 o.len)
  · obtain ⟨a, vs, rfl, h3, h4⟩ := rx.sqT
    refine .inl (.inr ⟨a, vs, rfl, h3, fun hw => ?_, fun _ => new_tup l h4.cut h k⟩)
    refine k _ _ H η l (Ext.refl _ _) rx ?_
    unfold cutD at h
    rw [← h4.length, hw.1, hw.2, h4.length, List.drop_zero, Nat.sub_zero, List.take_length] at h
    exact h
  · exact so_slL l rx ⟨_, rfl, h⟩ k
  · cases rx with
    | klst a b r c => exact .inl (.inl ⟨_, _, rfl, .inl a, new_lst l c.cut h k⟩)
    | klstK a1 a2 a3 a4 a5 a6 c => exact .inl (.inl ⟨_, _, rfl, .inr ⟨_, _, _, a1, a2, a3, a4, a5, a6⟩, new_lst l c.cut h k⟩)
  · exact so_slL l rx h k⟩
def oRev : D → Eta → DK → Prop := fun x η Φ => ∃ xs, asL η x = some xs ∧ Φ (.lst xs.reverse) η
theorem pd_rev {E : XK} {e : Expr} {te : TE} {de : DE} {k : Nat} {p1 p2 p3 pos : Pos} (he : PD X E e te de) : PD X E (.Subscript e (.Slice none none (some (.UnaryOp .USub (.Constant (.int 1) k p1) p2)) p3) pos) (tRevL X.K te) (dUn oRev de) := ⟨pe_revL he.pe, fun R σ H δ η Z Φ Q l s h kk => by
  refine he.so R σ H δ η Z _ _ l s h (kk.to fun v1 d1 H1 η1 l1 e1 r1 h1 => ?_)
  obtain ⟨xs, h2, h1⟩ := h1
  obtain ⟨a, vs, rfl, h3, h4⟩ := asL_ok l1 r1 h2
  exact ⟨a, vs, rfl, .inl h3, new_lst l1 h4.reverse h1 fun v d H' η' l' x' r' h' => kk.ok v d H' η' l' (e1.trans x') r' h'⟩⟩

/-! ### in -/
def rInG (K : PySem.W.Frag) : R2 := fun x y H Q => ∃ d ds, Dp K H x d ∧ (Dp K H y (.list ds) ∨ Dp K H y (.tuple ds)) ∧ d.canLay0 = true ∧ PyData.canLayAll0 ds = true ∧ min (PyData.depthAll ds) d.depth ≤ 60 ∧ Q (.bl (ds.any fun z => PyData.eqv z d)) H
def rNotInG (K : PySem.W.Frag) : R2 := fun x y H Q => ∃ d ds, Dp K H x d ∧ (Dp K H y (.list ds) ∨ Dp K H y (.tuple ds)) ∧ d.canLay0 = true ∧ PyData.canLayAll0 ds = true ∧ min (PyData.depthAll ds) d.depth ≤ 60 ∧ Q (.bl (!ds.any fun z => PyData.eqv z d)) H
theorem op_inG (hu : X.A.units + 64 < cLine) : OpR X (compareOp .In) (rInG X.K) := by
  intro pins s σ H x y v u Q I rx ry h
  obtain ⟨d, ds, hd, he, sd, se, hm, q⟩ := h
  obtain ⟨as, r1⟩ := Dp.reads I d x v hd rx
  rcases he with he | he
  · obtain ⟨bs, r2⟩ := Dp.reads I (.list ds) y u he ry
    exact SeqAt.in_list_reads r2 r1 se sd (by omega) ⟨.bl _, H, I, rfl, q⟩
  · obtain ⟨bs, r2⟩ := Dp.reads I (.tuple ds) y u he ry
    exact SeqAt.in_tuple_reads r2 r1 se sd (by omega) ⟨.bl _, H, I, rfl, q⟩
theorem op_notInG (hu : X.A.units + 64 < cLine) : OpR X (compareOp .NotIn) (rNotInG X.K) := by
  intro pins s σ H x y v u Q I rx ry h
  obtain ⟨d, ds, hd, he, sd, se, hm, q⟩ := h
  obtain ⟨as, r1⟩ := Dp.reads I d x v hd rx
  rcases he with he | he
  · obtain ⟨bs, r2⟩ := Dp.reads I (.list ds) y u he ry
    exact SeqAt.notIn_list_reads r2 r1 se sd (by omega) ⟨.bl _, H, I, rfl, q⟩
  · obtain ⟨bs, r2⟩ := Dp.reads I (.tuple ds) y u he ry
    exact SeqAt.notIn_tuple_reads r2 r1 se sd (by omega) ⟨.bl _, H, I, rfl, q⟩
def rInSg : R2 := fun x y H Q => ∃ (c : Nat) (z : Str), x = .str ⟨#[c]⟩ ∧ y = .str z ∧ Q (.bl (decide (c ∈ z.cps.toList))) H
def rNotInSg : R2 := fun x y H Q => ∃ (c : Nat) (z : Str), x = .str ⟨#[c]⟩ ∧ y = .str z ∧ Q (.bl (!decide (c ∈ z.cps.toList))) H
def rInU (K : PySem.W.Frag) : R2 := fun x y H Q => rInG K x y H Q ∨ rInSg x y H Q
def rNotInU (K : PySem.W.Frag) : R2 := fun x y H Q => rNotInG K x y H Q ∨ rNotInSg x y H Q
def dIn (x : D) (xs : List D) : Bool := xs.any fun z => dEqv z x
def oInB (neg : Bool) : DR2 := fun x y η Φ => match y with
  | .str z => ∃ c, x = .str ⟨#[c]⟩ ∧ Φ (.bl (neg ^^ decide (c ∈ z.cps.toList))) η
  | y => ∃ xs, asS η y = some xs ∧ pyOk (unref η x) = true ∧ pyOks xs = true ∧ min (PyData.depthAll (toPys xs)) (toPy (unref η x)).depth ≤ 60 ∧ Φ (.bl (neg ^^ dIn (unref η x) xs)) η
theorem dIn_py (x : D) (xs : List D) : dIn x xs = (toPys xs).any fun z => PyData.eqv z (toPy x) := by
  rw [toPys_eq, List.any_map]; rfl
theorem asS_dp {K : PySem.W.Frag} {R : Addr → Prop} {η : Eta} {H : Hp} {v : V} {d : D} {ds : List D} (l : Lk K R η H) (r : Rep K R η H v d) (h : asS η d = some ds) (o : pyOks ds = true) : (Dp K H v (.list (toPys ds)) ∨ Dp K H v (.tuple (toPys ds))) ∧ PyData.canLayAll0 (toPys ds) = true := by
  obtain ⟨a, xs, rfl, h1, h2⟩ := asS_ok l r h
  obtain ⟨h3, h4⟩ := reps_dp ds xs h2 o
  rcases h1 with h1 | h1
  · exact ⟨.inl (.lst h1 h3), h4⟩
  · exact ⟨.inr (.tup h1 h3), h4⟩
theorem so_in {K : PySem.W.Frag} {R : Addr → Prop} {η : Eta} {H : Hp} {x y : V} {dx dy : D} {neg : Bool} {Φ : DK} (l : Lk K R η H) (rx : Rep K R η H x dx) (ry : Rep K R η H y dy)
    (h : ∃ xs, asS η dy = some xs ∧ pyOk (unref η dx) = true ∧ pyOks xs = true ∧ min (PyData.depthAll (toPys xs)) (toPy (unref η dx)).depth ≤ 60 ∧ Φ (.bl (neg ^^ dIn (unref η dx) xs)) η) :
    ∃ d ds, Dp K H x d ∧ (Dp K H y (.list ds) ∨ Dp K H y (.tuple ds)) ∧ d.canLay0 = true ∧ PyData.canLayAll0 ds = true ∧ min (PyData.depthAll ds) d.depth ≤ 60 ∧ Φ (.bl (neg ^^ (ds.any fun z => PyData.eqv z d))) η := by
  obtain ⟨xs, h1, h2, h3, h4, h⟩ := h
  obtain ⟨h5, h6⟩ := dp_of l rx h2
  obtain ⟨h7, h8⟩ := asS_dp l ry h1 h3
  exact ⟨_, _, h5, h7, h6, h8, h4, by rw [← dIn_py]; exact h⟩
theorem od_in (hu : X.A.units + 64 < cLine) : OpD X (compareOp .In) (rInU X.K) (oInB false) := ⟨OpR.or (op_inG hu) op_in_sign, fun R η H x y dx dy Φ Q l rx ry h k => by
  unfold oInB at h
  split at h
  · obtain ⟨c, rfl, h⟩ := h
    cases rx; cases ry
    exact .inr ⟨c, _, rfl, rfl, k _ _ H η l (Ext.refl _ _) (.bl _) (by simpa using h)⟩
  · obtain ⟨d, ds, h1, h2, h3, h4, h5, h⟩ := so_in l rx ry h
    exact .inl ⟨d, ds, h1, h2, h3, h4, h5, k _ _ H η l (Ext.refl _ _) (.bl _) (by simpa using h)⟩⟩
theorem od_notIn (hu : X.A.units + 64 < cLine) : OpD X (compareOp .NotIn) (rNotInU X.K) (oInB true) := ⟨OpR.or (op_notInG hu) op_notIn_sign, fun R η H x y dx dy Φ Q l rx ry h k => by
  unfold oInB at h
  split at h
  · obtain ⟨c, rfl, h⟩ := h
    cases rx; cases ry
    exact .inr ⟨c, _, rfl, rfl, k _ _ H η l (Ext.refl _ _) (.bl _) (by simpa using h)⟩
  · obtain ⟨d, ds, h1, h2, h3, h4, h5, h⟩ := so_in l rx ry h
    exact .inl ⟨d, ds, h1, h2, h3, h4, h5, k _ _ H η l (Ext.refl _ _) (.bl _) (by simpa using h)⟩⟩

/-! ### built-in calls -/
def rLenU (K : PySem.W.Frag) : RCl := fun xs H Q => (∃ p ys, xs = [.ref p] ∧ (SqL K H p ys ∨ SqT K H p ys) ∧ Q (.int ys.length) H) ∨ ∃ z, xs = [.str z] ∧ z.length ≤ sizeLine ∧ Q (.int z.length) H
def oLen : DCl := fun ds η Φ => match ds with
  | [.str z] => Φ (.int z.length) η
  | [x] => ∃ xs, asS η x = some xs ∧ Φ (.int xs.length) η
  | _ => False
theorem cl_len : ClD X (.builtin "len") (rLenU X.K) oLen := ⟨call_len_seq.or call_len_str, fun R η H xs ds Φ Q l r h k => by
  unfold oLen at h
  split at h
  · cases r with
    | cons r1 r2 =>
      cases r2
      cases r1 with
      | str o => exact .inr ⟨_, rfl, o.len, k _ _ H η l (Ext.refl _ _) (.int _) h⟩
  · cases r with
    | cons r1 r2 =>
      cases r2
      obtain ⟨xs, h1, h⟩ := h
      obtain ⟨a, vs, rfl, h2, h3⟩ := asS_ok l r1 h1
      exact .inl ⟨a, vs, rfl, h2, k _ _ H η l (Ext.refl _ _) (.int _) (by rw [h3.length]; exact h)⟩
  · exact h.elim⟩
def b2I (b : Bool) : Int := if b then 1 else 0
def oInt : DCl := fun ds η Φ => match ds with
  | [.int i] => Φ (.int i) η
  | [.bl k] => Φ (.int (b2I k)) η
  | _ => False
def rInt : RCl := fun xs H Q => (∃ i, xs = [.int i] ∧ Q (.int i) H) ∨ ∃ k, xs = [.bl k] ∧ Q (.int (if k then 1 else 0)) H
theorem cl_int : ClD X (.type "int") rInt oInt := ⟨call_int1, fun R η H xs ds Φ Q l r h k => by
  unfold oInt at h
  split at h
  · cases r with
    | cons r1 r2 => cases r2; cases r1; exact .inl ⟨_, rfl, k _ _ H η l (Ext.refl _ _) (.int _) h⟩
  · cases r with
    | cons r1 r2 => cases r2; cases r1; exact .inr ⟨_, rfl, k _ _ H η l (Ext.refl _ _) (.int _) h⟩
  · exact h.elim⟩
def rListU (K : PySem.W.Frag) : RCl := fun xs H Q => ∃ p ys, xs = [.ref p] ∧ (SqL K H p ys ∨ SqT K H p ys) ∧ ∀ l, H l = none → Q (.ref l) (upd H l (.lst ys))
def oList : DCl := fun ds η Φ => ∃ x xs, ds = [x] ∧ asS η x = some xs ∧ Φ (.lst xs) η
def oListM : DCl := fun ds η Φ => ∃ x xs, ds = [x] ∧ asS η x = some xs ∧ ∀ p, η p = none → Φ (.ref p) (eup η p (.lst xs))
theorem cl_list : ClD X (.type "list") (rListU X.K) oList := ⟨call_list_of, fun R η H xs ds Φ Q l r h k => by
  obtain ⟨x, ys, rfl, h1, h⟩ := h
  cases r with
  | cons r1 r2 =>
    cases r2
    obtain ⟨a, vs, rfl, h2, h3⟩ := asS_ok l r1 h1
    exact ⟨a, vs, rfl, h2, new_lst l h3 h k⟩⟩
theorem cl_listM : ClD X (.type "list") (rListU X.K) oListM := ⟨call_list_of, fun R η H xs ds Φ Q l r h k => by
  obtain ⟨x, ys, rfl, h1, h⟩ := h
  cases r with
  | cons r1 r2 =>
    cases r2
    obtain ⟨a, vs, rfl, h2, h3⟩ := asS_ok l r1 h1
    exact ⟨a, vs, rfl, h2, new_lstM l h3 h k⟩⟩
def rTupU (K : PySem.W.Frag) : RCl := fun xs H Q => ∃ p ys, xs = [.ref p] ∧ ((SqL K H p ys ∧ ∀ l, H l = none → Q (.ref l) (upd H l (.tup ys))) ∨ (SqT K H p ys ∧ Q (.ref p) H))
def oTup : DCl := fun ds η Φ => ∃ x xs, ds = [x] ∧ asS η x = some xs ∧ Φ (.tup xs) η
theorem cl_tuple : ClD X (.type "tuple") (rTupU X.K) oTup := ⟨call_tuple_of, fun R η H xs ds Φ Q l r h k => by
  obtain ⟨x, ys, rfl, h1, h⟩ := h
  cases r with
  | cons r1 r2 =>
    cases r2
    cases x with
    | tup zs =>
      cases h1
      obtain ⟨a, vs, rfl, h2, h3⟩ := r1.sqT
      exact ⟨a, vs, rfl, .inr ⟨h2, k _ _ H η l (Ext.refl _ _) r1 h⟩⟩
    | lst zs =>
      cases h1
      obtain ⟨a, vs, rfl, h2, h3⟩ := r1.sqL
      exact ⟨a, vs, rfl, .inl ⟨h2, new_tup l h3 h k⟩⟩
    | ref p =>
      obtain ⟨a, vs, rfl, h2, h3⟩ := asL_ok l r1 (show asL η (.ref p) = some ys from h1)
      exact ⟨a, vs, rfl, .inl ⟨.inl h2, new_tup l h3 h k⟩⟩
    | _ => cases h1⟩
def oAll : DCl := fun ds η Φ => ∃ (x : D) (bs : List Bool), ds = [x] ∧ asL η x = some (bs.map D.bl) ∧ Φ (.bl (bs.all id)) η
def oAny : DCl := fun ds η Φ => ∃ (x : D) (bs : List Bool), ds = [x] ∧ asL η x = some (bs.map D.bl) ∧ Φ (.bl (bs.any id)) η
theorem cl_all (hc : X.calm = true) : ClD X (.builtin "all") (rAll X.K) oAll := ⟨cr_all hc, fun R η H xs ds Φ Q l r h k => by
  obtain ⟨x, bs, rfl, h1, h⟩ := h
  cases r with
  | cons r1 r2 =>
    cases r2
    obtain ⟨a, vs, rfl, h2, h3⟩ := asL_ok l r1 h1
    exact ⟨a, bs, rfl, by rw [← h3.bls]; exact .inl h2, k _ _ H η l (Ext.refl _ _) (.bl _) h⟩⟩
theorem cl_any (hc : X.calm = true) : ClD X (.builtin "any") (rAny X.K) oAny := ⟨cr_any hc, fun R η H xs ds Φ Q l r h k => by
  obtain ⟨x, bs, rfl, h1, h⟩ := h
  cases r with
  | cons r1 r2 =>
    cases r2
    obtain ⟨a, vs, rfl, h2, h3⟩ := asL_ok l r1 h1
    exact ⟨a, bs, rfl, by rw [← h3.bls]; exact .inl h2, k _ _ H η l (Ext.refl _ _) (.bl _) h⟩⟩
def oSum : DCl := fun ds η Φ => ∃ (x : D) (ns : List Int), ds = [x] ∧ asL η x = some (ns.map D.int) ∧ Φ (.int ns.sum) η
theorem cl_sum (hc : X.calm = true) : ClD X (.builtin "sum") (rSum X.K) oSum := ⟨cr_sum hc, fun R η H xs ds Φ Q l r h k => by
  obtain ⟨x, bs, rfl, h1, h⟩ := h
  cases r with
  | cons r1 r2 =>
    cases r2
    obtain ⟨a, vs, rfl, h2, h3⟩ := asL_ok l r1 h1
    exact ⟨a, bs, rfl, by rw [← h3.ints]; exact .inl h2, k _ _ H η l (Ext.refl _ _) (.int _) h⟩⟩

/-! ### isinstance -/
def tyN (η : Eta) : D → Option String
  | .non => some "NoneType"
  | .bl _ => some "bool"
  | .int _ => some "int"
  | .str _ => some "str"
  | .lst _ => some "list"
  | .tup _ => some "tuple"
  | .dct _ _ => some "dict"
  | .ref p => match η p with
    | some (.lst _) => some "list"
    | some (.dct _ _) => some "dict"
    | _ => none
  | _ => none
def isiB (a n : String) : Bool := a == n || (a == "bool" && n == "int")
def tyNames : List String := ["int", "bool", "str", "list", "tuple", "dict"]
theorem kitB_ok : ∀ a ∈ "NoneType" :: tyNames, ∀ n ∈ tyNames, kitB a n = some (isiB a n) := by decide +kernel
theorem tyN_ok {K : PySem.W.Frag} {R : Addr → Prop} {η : Eta} {H : Hp} {v : V} {d : D} {a : String} (l : Lk K R η H) (r : Rep K R η H v d) (h : tyN η d = some a) : TyX K H v (.type a) ∧ a ∈ "NoneType" :: tyNames := by
  cases r with
  | non => cases h; exact ⟨.base .non, by decide⟩
  | bl b => cases h; exact ⟨.base (.bl b), by decide⟩
  | int b => cases h; exact ⟨.base (.int b), by decide⟩
  | str o => cases h; exact ⟨.base (.str _), by decide⟩
  | ty n => cases h
  | obj _ _ _ _ _ => cases h
  | klst _ _ _ _ => cases h
  | klstK _ _ _ _ _ _ _ => cases h
  | lst q _ _ _ => cases h; rcases q with q | ⟨o, q⟩; exact ⟨.base (.lst q), by decide⟩; exact ⟨.base (.frz q), by decide⟩
  | tup q _ _ _ => cases h; rcases q with q | ⟨o, q⟩; exact ⟨.base (.tup q), by decide⟩; exact ⟨.fTuple q, by decide⟩
  | tupK a1 a2 a3 a4 a5 a6 => cases h; exact ⟨.kTuple a1 a2, by decide⟩
  | dct q _ _ _ _ => cases h; rcases q with q | ⟨o, q⟩; exact ⟨.base (.dK q), by decide⟩; exact ⟨.fDict q, by decide⟩
  | ref p =>
    cases e : η p with
    | none => simp [tyN, e] at h
    | some m =>
      cases m with
      | lst ds =>
        simp [tyN, e] at h
        subst h
        obtain ⟨xs, q, _⟩ := l.m p _ e
        exact ⟨.base (.lst q), by decide⟩
      | dct ks ds =>
        simp [tyN, e] at h
        subst h
        obtain ⟨xs, q, _⟩ := l.m p _ e
        exact ⟨.base (.dK q), by decide⟩
      | ins C ns ds => simp [tyN, e] at h
def rIsiR (K : PySem.W.Frag) : RCl := fun xs H Q => ∃ (x : V) (tp : Addr) (cs : List V) (t : Value) (us : List Value) (b : Bool), xs = [x, .ref tp] ∧ Rd H tp (.tup cs) ∧ Paired ClsV cs us ∧ TyX K H x t ∧ PySem.W.kitAny K t us = some b ∧ Q (.bl b) H
theorem call_isiR : CallR X (.builtin "isinstance") (rIsiR X.K) := by
  intro pins s σ H xs us Q I r h
  obtain ⟨x, tp, cs, t, ws, b, rfl, hT, k, ty, e, q⟩ := h
  obtain ⟨u1, u2, rfl, r1, r2⟩ := vals2 r
  cases (show u2 = Value.ref tp from r2)
  obtain ⟨P, Z, p, hx⟩ := kit_of I r1 ty
  obtain ⟨_, its, rv, o, h1, h2, n, h3⟩ := (show ObjOk X.prog X.w H s.heap tp (.tup cs) from hT.ok I.hok)
  have e3 := ClsV.all k rv
  subst e3
  obtain ⟨oc, od, dt, sl⟩ := o
  simp only at h2 h3
  subst h2 h3
  exact PySem.W.kia_tup Z I.kIn p h1 e hx fun tk => ⟨.bl b, H, I.tok tk, rfl, q⟩
def rIsiU (K : PySem.W.Frag) : RCl := fun xs H Q => (rIsi K xs H Q ∨ rIsiR K xs H Q) ∨ rIsiK K xs H Q
def oIsi : DCl := fun ds η Φ => match ds with
  | [x, .ty n] => ∃ a, tyN η x = some a ∧ tyNames.contains n = true ∧ Φ (.bl (isiB a n)) η
  | [x, .tup ts] => ∃ (a : String) (ns : List String), tyN η x = some a ∧ ts = ns.map D.ty ∧ (ns.all fun n => tyNames.contains n) = true ∧ Φ (.bl (ns.any (isiB a))) η
  | _ => False
theorem kitAny_ok {K : PySem.W.Frag} {a : String} (ha : a ∈ "NoneType" :: tyNames) : ∀ {ns : List String}, (ns.all fun n => tyNames.contains n) = true → PySem.W.kitAny K (.type a) (ns.map Value.type) = some (ns.any (isiB a))
  | [], _ => kitAny_nil
  | n :: ns, h => by
    rw [List.all_cons, Bool.and_eq_true] at h
    have h1 := kitB_ok a ha n (List.contains_iff_mem.mp h.1)
    rw [List.map_cons, List.any_cons]
    refine kitAny_cons (kit_ty h1) (fun e => ?_) fun e => ?_
    · rw [e, Bool.false_or]; exact kitAny_ok ha h.2
    · rw [e, Bool.true_or]
theorem tys_reps {K : PySem.W.Frag} {R : Addr → Prop} {η : Eta} {H : Hp} : ∀ {ns : List String} {vs : List V}, Reps K R η H vs (ns.map D.ty) → Paired ClsV vs (ns.map Value.type)
  | [], _, h => by cases h; exact .nil
  | n :: ns, _, h => by
    cases h with
    | cons a b => cases a; exact .cons (.ty n) (tys_reps b)
theorem cl_isi : ClD X (.builtin "isinstance") (rIsiU X.K) oIsi := ⟨(call_isi.or call_isiR).or call_isiK, fun R η H xs ds Φ Q l r h k => by
  unfold oIsi at h
  split at h
  · obtain ⟨a, h1, h2, h⟩ := h
    cases r with
    | cons r1 r2 =>
      cases r2 with
      | cons r2 r3 =>
        cases r3
        cases r2
        obtain ⟨h3, h4⟩ := tyN_ok l r1 h1
        exact .inl (.inl ⟨_, _, _, _, _, rfl, .ty _, h3, kit_ty (kitB_ok a h4 _ (List.contains_iff_mem.mp h2)), k _ _ H η l (Ext.refl _ _) (.bl _) h⟩)
  · obtain ⟨a, ns, h1, rfl, h2, h⟩ := h
    cases r with
    | cons r1 r2 =>
      cases r2 with
      | cons r2 r3 =>
        cases r3
        obtain ⟨h3, h4⟩ := tyN_ok l r1 h1
        cases r2 with
        | tup q _ _ rs => exact .inl (.inr ⟨_, _, _, _, _, _, rfl, q, tys_reps rs, h3, kitAny_ok h4 h2, k _ _ H η l (Ext.refl _ _) (.bl _) h⟩)
        | tupK a1 a2 a3 a4 a5 rs =>
          rename_i a' xs' o its n
          obtain ⟨oc, od, dt, sl⟩ := o
          simp only at a2 a3
          subst a2 a3
          have e3 := ClsV.all (tys_reps rs) a5
          exact .inr ⟨_, a', od, ns.map Value.type, n, sl, _, _, rfl, by rw [a1, ← e3], h3, kitAny_ok h4 h2, k _ _ H η l (Ext.refl _ _) (.bl _) h⟩
  · exact h.elim⟩

/-! ### xs[i] = v -/
def oSet : DSet := fun x y v η Φ => ∃ p i ds j, x = .ref p ∧ y = .int i ∧ η p = some (.lst ds) ∧ ixN ds.length i = some j ∧ Φ (eup η p (.lst (ds.set j v)))
theorem std : StD X rSetL oSet := ⟨set_list, fun R η H x y z dx dy dz Φ Q l rx ry rz h k => by
  obtain ⟨p, i, ds, j, rfl, rfl, hp, hj, h⟩ := h
  cases rx
  cases ry
  obtain ⟨xs, h1, h2⟩ := l.m p _ hp
  have np : η p ≠ none := by rw [hp]; simp
  have e : Ext η H (eup η p (.lst (ds.set j dz))) (upd H p (.lst (xs.set j z))) := Ext.wr np
  exact ⟨p, xs, i, j, rfl, rfl, h1, by rw [h2.length]; exact hj, k _ _ (l.wr (m := .lst (ds.set j dz)) np ⟨_, upd_same, (Reps.set rz j h2).up e⟩) e h⟩⟩
end
end DL
namespace DL
open PySem PySem.Spec PyProof.Rows L2
section
variable {η : Eta} {b : Bool} {i : Int} {x : Str} {xs : List D} {ks : List Key} {p : Addr}
theorem tyN_non : tyN η .non = some "NoneType" := rfl
theorem tyN_bl : tyN η (.bl b) = some "bool" := rfl
theorem tyN_int : tyN η (.int i) = some "int" := rfl
theorem tyN_str : tyN η (.str x) = some "str" := rfl
theorem tyN_lst : tyN η (.lst xs) = some "list" := rfl
theorem tyN_tup : tyN η (.tup xs) = some "tuple" := rfl
theorem tyN_dct : tyN η (.dct ks xs) = some "dict" := rfl
theorem tyN_refL (h : η p = some (.lst xs)) : tyN η (.ref p) = some "list" := by simp [tyN, h]
theorem tyN_refD (h : η p = some (.dct ks xs)) : tyN η (.ref p) = some "dict" := by simp [tyN, h]
theorem asL_lst : asL η (.lst xs) = some xs := rfl
theorem asL_refL (h : η p = some (.lst xs)) : asL η (.ref p) = some xs := by simp [asL, h]
theorem asS_lst : asS η (.lst xs) = some xs := rfl
theorem asS_tup : asS η (.tup xs) = some xs := rfl
theorem asS_refL (h : η p = some (.lst xs)) : asS η (.ref p) = some xs := by simp [asS, h]
theorem unref_non : unref η .non = .non := rfl
theorem unref_bl : unref η (.bl b) = .bl b := rfl
theorem unref_int : unref η (.int i) = .int i := rfl
theorem unref_str : unref η (.str x) = .str x := rfl
theorem unref_lst : unref η (.lst xs) = .lst xs := rfl
theorem unref_tup : unref η (.tup xs) = .tup xs := rfl
theorem unref_refL (h : η p = some (.lst xs)) : unref η (.ref p) = .lst xs := by simp [unref, h]
theorem isNonD_non : isNonD .non = true := rfl
theorem isNonD_bl : isNonD (.bl b) = false := rfl
theorem isNonD_int : isNonD (.int i) = false := rfl
theorem isNonD_str : isNonD (.str x) = false := rfl
theorem isNonD_lst : isNonD (.lst xs) = false := rfl
theorem isNonD_tup : isNonD (.tup xs) = false := rfl
theorem isNonD_ref : isNonD (.ref p) = false := rfl
/-- == of plain values -/
theorem dEqv_int {j : Int} : dEqv (.int i) (.int j) = decide (i = j) := by simp [dEqv, toPy, PyData.eqv, Bool.beq_eq_decide_eq]
theorem dEqv_str {y : Str} : dEqv (.str x) (.str y) = decide (x = y) := by simp [dEqv, toPy, PyData.eqv, Bool.beq_eq_decide_eq]
theorem dEqv_bl {c : Bool} : dEqv (.bl b) (.bl c) = decide (b = c) := by simp [dEqv, toPy, PyData.eqv, Bool.beq_eq_decide_eq]
theorem dEqv_non : dEqv .non .non = true := by simp [dEqv, toPy, PyData.eqv]
theorem dEqv_non_int : dEqv .non (.int i) = false := by simp [dEqv, toPy, PyData.eqv]
theorem dEqv_int_non : dEqv (.int i) .non = false := by simp [dEqv, toPy, PyData.eqv]
theorem dEqv_non_str : dEqv .non (.str x) = false := by simp [dEqv, toPy, PyData.eqv]
theorem dEqv_str_non : dEqv (.str x) .non = false := by simp [dEqv, toPy, PyData.eqv]
theorem dEqv_int_str : dEqv (.int i) (.str x) = false := by simp [dEqv, toPy, PyData.eqv]
theorem dEqv_str_int : dEqv (.str x) (.int i) = false := by simp [dEqv, toPy, PyData.eqv]
theorem eqvs_map (f : List PyData → PyData) : True := True.intro
def dEqvs : List D → List D → Bool
  | [], [] => true
  | x :: xs, y :: ys => dEqv x y && dEqvs xs ys
  | _, _ => false
theorem dEqvs_py : ∀ xs ys : List D, PyData.eqvAll (toPys xs) (toPys ys) = dEqvs xs ys
  | [], [] => by simp [toPys, PyData.eqvAll, dEqvs]
  | [], _ :: _ => by simp [toPys, PyData.eqvAll, dEqvs]
  | _ :: _, [] => by simp [toPys, PyData.eqvAll, dEqvs]
  | x :: xs, y :: ys => by simp [toPys, PyData.eqvAll, dEqvs, dEqvs_py xs ys, dEqv]
theorem dEqv_lst {ys : List D} : dEqv (.lst xs) (.lst ys) = dEqvs xs ys := by simp [dEqv, toPy, PyData.eqv, dEqvs_py]
theorem dEqv_tup {ys : List D} : dEqv (.tup xs) (.tup ys) = dEqvs xs ys := by simp [dEqv, toPy, PyData.eqv, dEqvs_py]
theorem dEqvs_nil : dEqvs [] [] = true := rfl
theorem dEqvs_cons {x y : D} {xs ys : List D} : dEqvs (x :: xs) (y :: ys) = (dEqv x y && dEqvs xs ys) := rfl
theorem dEqvs_nil_cons {y : D} {ys : List D} : dEqvs [] (y :: ys) = false := rfl
theorem dEqvs_cons_nil {y : D} {ys : List D} : dEqvs (y :: ys) [] = false := rfl
/-- depths -/
theorem dDep_of {a b : D} (h : (toPy a).depth ≤ 60) : dDep a b := Nat.le_trans (Nat.min_le_left _ _) h
theorem dDep_of2 {a b : D} (h : (toPy b).depth ≤ 60) : dDep a b := Nat.le_trans (Nat.min_le_right _ _) h
theorem dDep_int_l {b : D} : dDep (.int i) b := dDep_of (by simp [toPy, PyData.depth])
theorem dDep_str_l {b : D} : dDep (.str x) b := dDep_of (by simp [toPy, PyData.depth])
theorem dDep_non_l {b : D} : dDep .non b := dDep_of (by simp [toPy, PyData.depth])
theorem dDep_bl_l {c : D} : dDep (.bl b) c := dDep_of (by simp [toPy, PyData.depth])
theorem dDep_int_r {b : D} : dDep b (.int i) := dDep_of2 (by simp [toPy, PyData.depth])
theorem dDep_str_r {b : D} : dDep b (.str x) := dDep_of2 (by simp [toPy, PyData.depth])
theorem dDep_non_r {b : D} : dDep b .non := dDep_of2 (by simp [toPy, PyData.depth])
theorem dDep_bl_r {c : D} : dDep c (.bl b) := dDep_of2 (by simp [toPy, PyData.depth])
/-- a mutable list as it stands -/
def lstM : Option M → Option (List D)
  | some (.lst xs) => some xs
  | _ => none
theorem lstM_lst : lstM (some (.lst xs)) = some xs := rfl
theorem asL_rf : asL η (.ref p) = lstM (η p) := rfl
theorem asS_rf : asS η (.ref p) = lstM (η p) := rfl
theorem atI_cast {α : Type} (ys : List α) (n : Nat) : L2.atI ys (n : Int) = ys[n]? := by
  unfold L2.atI ixN
  rw [if_pos (by omega)]
  by_cases h : (n : Int) < (ys.length : Int)
  · rw [if_pos h]; simp
  · rw [if_neg h]; simp; omega
theorem atI_0 {α : Type} (ys : List α) : L2.atI ys 0 = ys[0]? := atI_cast ys 0
theorem atI_1 {α : Type} (ys : List α) : L2.atI ys 1 = ys[1]? := atI_cast ys 1
theorem atI_2 {α : Type} (ys : List α) : L2.atI ys 2 = ys[2]? := atI_cast ys 2
theorem atI_3 {α : Type} (ys : List α) : L2.atI ys 3 = ys[3]? := atI_cast ys 3
theorem atI_4 {α : Type} (ys : List α) : L2.atI ys 4 = ys[4]? := atI_cast ys 4
theorem atI_5 {α : Type} (ys : List α) : L2.atI ys 5 = ys[5]? := atI_cast ys 5
theorem atI_6 {α : Type} (ys : List α) : L2.atI ys 6 = ys[6]? := atI_cast ys 6
theorem atI_7 {α : Type} (ys : List α) : L2.atI ys 7 = ys[7]? := atI_cast ys 7
theorem atI_8 {α : Type} (ys : List α) : L2.atI ys 8 = ys[8]? := atI_cast ys 8
theorem atI_9 {α : Type} (ys : List α) : L2.atI ys 9 = ys[9]? := atI_cast ys 9
theorem atI_neg1 {α : Type} (ys : List α) : L2.atI ys (-1) = ys[ys.length - 1]? := by
  unfold L2.atI ixN
  rw [if_neg (by omega)]
  by_cases h : -(ys.length : Int) ≤ -1
  · rw [if_pos h]; simp only [Option.bind_some]; congr 1; omega
  · rw [if_neg h]; simp; omega
theorem ixN_0 (m : Nat) : ixN m 0 = if 0 < m then some 0 else none := by unfold ixN; rw [if_pos (by omega)]; by_cases h : 0 < m <;> simp [h] <;> omega
theorem ixN_1 (m : Nat) : ixN m 1 = if 1 < m then some 1 else none := by unfold ixN; rw [if_pos (by omega)]; by_cases h : 1 < m <;> simp [h] <;> omega
theorem ixN_2 (m : Nat) : ixN m 2 = if 2 < m then some 2 else none := by unfold ixN; rw [if_pos (by omega)]; by_cases h : 2 < m <;> simp [h] <;> omega
theorem ixN_3 (m : Nat) : ixN m 3 = if 3 < m then some 3 else none := by unfold ixN; rw [if_pos (by omega)]; by_cases h : 3 < m <;> simp [h] <;> omega
theorem ixN_4 (m : Nat) : ixN m 4 = if 4 < m then some 4 else none := by unfold ixN; rw [if_pos (by omega)]; by_cases h : 4 < m <;> simp [h] <;> omega
theorem ixN_5 (m : Nat) : ixN m 5 = if 5 < m then some 5 else none := by unfold ixN; rw [if_pos (by omega)]; by_cases h : 5 < m <;> simp [h] <;> omega
theorem ixN_6 (m : Nat) : ixN m 6 = if 6 < m then some 6 else none := by unfold ixN; rw [if_pos (by omega)]; by_cases h : 6 < m <;> simp [h] <;> omega
theorem ixN_7 (m : Nat) : ixN m 7 = if 7 < m then some 7 else none := by unfold ixN; rw [if_pos (by omega)]; by_cases h : 7 < m <;> simp [h] <;> omega
end
end DL
end
section
set_option Elab.async false
set_option linter.all false
set_option autoImplicit false
set_option maxRecDepth 100000
set_option maxHeartbeats 4000000
/-! DL5: more walks, keyword calls, the end of a law. -/
namespace DL
open PySem PySem.Spec PyProof.Rows L2

section
variable {X : Cx} {E : XK} {elt tg iter : Expr} {ifs : List Expr} {scope : Scope} {own : List (Str × Nat)} {pos spos : Pos} {wi : TI} {di : DI} {g : TG} {dg : DG} {tt : TT} {dt : DT} {te : TE} {de : DE}
theorem pds_setLc {i : Nat} {y : Str} {py : Pos} (hc : X.calm = true) (hN : X.N.Nodup) (hy : X.N[i]? = some y) (hyl : X.env.scope.names.lookup y = some .local)
    (hsw : swapsWith (.ListComp elt [⟨tg, iter, ifs, 0⟩] scope pos) (some (.Name y py)) spos.line X.env = pure true) (hi : PDI X E tg iter wi di) (ok : BlkOk X.N X.env.scope scope own)
    (hg : ∀ (s : Shared) (H : Hp) (C : Addr) (cl : List (Str × Addr)) (fp : List Addr), PDG (X.blk s H scope (compEnvC scope cl C X.env) fp) tg g dg) (ho : OwnG g (own.map (·.2)))
    (ht : ∀ (s : Shared) (H : Hp) (C : Addr) (cl : List (Str × Addr)) (fp : List Addr), PDTs (X.blk s H scope (compEnvC scope cl C X.env) fp) E0 ifs tt dt)
    (he : ∀ (s : Shared) (H : Hp) (C : Addr) (cl : List (Str × Addr)) (fp : List Addr), PD (X.blk s H scope (compEnvC scope cl C X.env) fp) E0 elt te de) (hs : ∀ x, foldedSetIterable iter X.env x = pure x := by intro _; rfl) :
    PDS X E (.Assign [.Name y py] (.ListComp elt [⟨tg, iter, ifs, 0⟩] scope pos) spos) (tAsg (tLc wi g tt te (own.map (·.2))) (gName i)) (dAsg (dLc di dg dt de (own.map (·.2))) (dName i)) :=
  ⟨ps_setLc hc hN hy hyl hsw hi.pi ok (fun s H C cl fp => (hg s H C cl fp).pg) (fun s H C cl fp => (ht s H C cl fp).pt) (fun s H C cl fp => (he s H C cl fp).pe) hs,
    so_asg (so_lc hi.so (hg X.s_0 X.H_0 0 [] []).so ho (ht X.s_0 X.H_0 0 [] []).so (he X.s_0 X.H_0 0 [] []).so) so_name⟩
end

/-! ### zip, enumerate, a text sign by sign -/
section
variable {X : Cx} {E : XK} {tg e e2 : Expr} {te : TE} {de : DE} {ta : TA} {da : DA} {p pos tpos : Pos} {elts : List Expr} {kk : Nat}
def pairs : List D → List D → List D
  | x :: xs, y :: ys => .tup [x, y] :: pairs xs ys
  | _, _ => []
theorem pairs_get : ∀ {xs ys : List D} {i : Nat} {d : D}, (pairs xs ys)[i]? = some d → ∃ x y, xs[i]? = some x ∧ ys[i]? = some y ∧ d = .tup [x, y]
  | [], _, _, _, h => by simp [pairs] at h
  | _ :: _, [], _, _, h => by simp [pairs] at h
  | x :: xs, y :: ys, 0, d, h => by simp [pairs] at h; exact ⟨x, y, rfl, rfl, h.symm⟩
  | x :: xs, y :: ys, i + 1, d, h => by simp only [pairs, List.getElem?_cons_succ] at h ⊢; exact pairs_get h
theorem pairs_len : ∀ xs ys : List D, (pairs xs ys).length = min xs.length ys.length
  | [], _ => by simp [pairs]
  | _ :: _, [] => by simp [pairs]
  | x :: xs, y :: ys => by simp [pairs, pairs_len xs ys]
theorem pair_new {K : PySem.W.Frag} {R : Addr → Prop} {η : Eta} {H : Hp} {T : Addr} {x y : V} {dx dy : D} (l : Lk K R η H) (hT : H T = none) (rx : Rep K R η H x dx) (ry : Rep K R η H y dy) :
    Lk K R η (upd H T (.tup [x, y])) ∧ (∀ a o, H a = some o → upd H T (.tup [x, y]) a = some o) ∧ Rep K R η (upd H T (.tup [x, y])) (.ref T) (.tup [dx, dy]) :=
  ⟨l.new hT, new_ex hT, .tup (.inl upd_same) (l.free hT) (l.nr hT) (.cons (rx.up (Ext.new hT)) (.cons (ry.up (Ext.new hT)) .nil))⟩
def dIZ (da : DA) : DI := fun Z δ η Ψ => da Z δ η fun ds η1 => match ds with
  | [.lst xs, .lst ys] => Ψ (pairs xs ys) (fun _ => True) η1
  | [.tup xs, .tup ys] => Ψ (pairs xs ys) (fun _ => True) η1
  | _ => False
theorem pdi_zip (hg : Gl X "zip") (hm : X.mg "zip" = none) (ha : PDA X E [e, e2] ta da) (hs : starEach [e, e2] X.env = (false, eval e X.env) :: starEach [e2] X.env := by rfl) (hpl : (backTo pos (starEach [e2] X.env)).any (·.1) = false := by rfl) :
    PDI X E (.Tuple elts kk tpos) (.Call (.Name "zip" p) [e, e2] [] pos) (RZ.iZipA X.K ta) (dIZ da) := ⟨RZ.pi_zipA hg hm ha.pa hs hpl, fun R σ H δ η Z Ψ Q l s hw k kx => by
  refine ha.so R σ H δ η Z _ _ l s hw ⟨fun v d H1 η1 l1 x1 r1 h1 => ?_, kx⟩
  split at h1
  · cases r1 with
    | cons r1 r2 =>
      cases r2 with
      | cons r2 r3 =>
        cases r3
        obtain ⟨a, vs, rfl, ha1, ha2⟩ := r1.sqL
        obtain ⟨b, ws, rfl, hb1, hb2⟩ := r2.sqL
        refine ⟨a, b, vs, ws, rfl, .inl ⟨ha1, hb1, k _ _ _ H1 η1 l1 x1 (fun R' m1 m2 η H l' x' _ => ?_) h1⟩⟩
        obtain ⟨a', vs', ea, ha1', ha2'⟩ := ((Rep.more m2 _ _ r1).up x').sqL
        obtain ⟨b', ws', eb, hb1', hb2'⟩ := ((Rep.more m2 _ _ r2).up x').sqL
        cases ea; cases eb
        refine ⟨⟨vs', ws', ha1', hb1', ?_⟩, fun i d hd => ?_⟩
        · rw [pairs_len, ha2'.length, hb2'.length]; omega
        · obtain ⟨dx, dy, h2, h3, rfl⟩ := pairs_get hd
          obtain ⟨x, hx, rx⟩ := ha2'.get h2
          obtain ⟨y, hy, ry⟩ := hb2'.get h3
          refine ⟨⟨vs', ws', x, y, ha1', hb1', hx, hy⟩, fun z H2 yl => ?_⟩
          obtain ⟨T, x', y', rfl, hT, rfl, q1, q2⟩ := yl
          have e1 := q1 _ ha1'
          have e2 := q2 _ hb1'
          rw [hx] at e1; rw [hy] at e2
          cases e1; cases e2
          exact pair_new l' hT rx ry
  · cases r1 with
    | cons r1 r2 =>
      cases r2 with
      | cons r2 r3 =>
        cases r3
        obtain ⟨a, vs, rfl, ha1, ha2⟩ := r1.sqT
        obtain ⟨b, ws, rfl, hb1, hb2⟩ := r2.sqT
        refine ⟨a, b, vs, ws, rfl, .inr ⟨ha1, hb1, k _ _ _ H1 η1 l1 x1 (fun R' m1 m2 η H l' x' _ => ?_) h1⟩⟩
        obtain ⟨a', vs', ea, ha1', ha2'⟩ := ((Rep.more m2 _ _ r1).up x').sqT
        obtain ⟨b', ws', eb, hb1', hb2'⟩ := ((Rep.more m2 _ _ r2).up x').sqT
        cases ea; cases eb
        refine ⟨⟨vs', ws', ha1', hb1', ?_⟩, fun i d hd => ?_⟩
        · rw [pairs_len, ha2'.length, hb2'.length]; omega
        · obtain ⟨dx, dy, h2, h3, rfl⟩ := pairs_get hd
          obtain ⟨x, hx, rx⟩ := ha2'.get h2
          obtain ⟨y, hy, ry⟩ := hb2'.get h3
          refine ⟨⟨vs', ws', x, y, ha1', hb1', hx, hy⟩, fun z H2 yl => ?_⟩
          obtain ⟨T, x', y', rfl, hT, rfl, q1, q2⟩ := yl
          have e1 := q1 _ ha1'
          have e2 := q2 _ hb1'
          rw [hx] at e1; rw [hy] at e2
          cases e1; cases e2
          exact pair_new l' hT rx ry
  · exact h1.elim⟩
def enumD : Int → List D → List D
  | _, [] => []
  | n, x :: xs => .tup [.int n, x] :: enumD (n + 1) xs
theorem enumD_len : ∀ (n : Int) (xs : List D), (enumD n xs).length = xs.length
  | _, [] => rfl
  | n, x :: xs => by simp [enumD, enumD_len (n + 1) xs]
theorem enumD_get : ∀ {n : Int} {xs : List D} {i : Nat} {d : D}, (enumD n xs)[i]? = some d → ∃ x, xs[i]? = some x ∧ d = .tup [.int (n + i), x]
  | _, [], _, _, h => by simp [enumD] at h
  | n, x :: xs, 0, d, h => by simp [enumD] at h; exact ⟨x, rfl, by rw [← h]; simp⟩
  | n, x :: xs, i + 1, d, h => by
    simp only [enumD, List.getElem?_cons_succ] at h ⊢
    obtain ⟨y, h1, h2⟩ := enumD_get h
    refine ⟨y, h1, ?_⟩
    rw [h2]
    have : n + 1 + (i : Int) = n + ((i + 1 : Nat) : Int) := by omega
    rw [this]
def dIE (da : DA) : DI := fun Z δ η Ψ => da Z δ η fun ds η1 => match ds with
  | [.lst xs] => Ψ (enumD 0 xs) (fun _ => True) η1
  | _ => False
theorem pdi_enum (hg : Gl X "enumerate") (hm : X.mg "enumerate" = none) (ha : PDA X E [e] ta da) (hs : starEach [e] X.env = [(false, eval e X.env)] := by rfl) :
    PDI X E (.Tuple elts kk tpos) (.Call (.Name "enumerate" p) [e] [] pos) (iEnum X.K ta) (dIE da) := ⟨pi_enum hg hm ha.pa hs, fun R σ H δ η Z Ψ Q l s hw k kx => by
  refine ha.so R σ H δ η Z _ _ l s hw ⟨fun v d H1 η1 l1 x1 r1 h1 => ?_, kx⟩
  split at h1
  · cases r1 with
    | cons r1 r2 =>
      cases r2
      obtain ⟨a, vs, rfl, ha1, ha2⟩ := r1.sqL
      refine ⟨a, vs, rfl, ha1, k _ _ _ H1 η1 l1 x1 (fun R' m1 m2 η H l' x' _ => ?_) h1⟩
      obtain ⟨a', vs', ea, ha1', ha2'⟩ := ((Rep.more m2 _ _ r1).up x').sqL
      cases ea
      refine ⟨⟨vs', ha1', ?_⟩, fun i d hd => ?_⟩
      · rw [enumD_len, ha2'.length]; exact Nat.le_refl _
      · obtain ⟨dx, h2, rfl⟩ := enumD_get hd
        obtain ⟨x, hx, rx⟩ := ha2'.get h2
        refine ⟨⟨vs', x, ha1', hx⟩, fun z H2 yl => ?_⟩
        obtain ⟨T, x', rfl, hT, rfl, q1⟩ := yl
        have e1 := q1 _ ha1'
        rw [hx] at e1
        cases e1
        refine pair_new l' hT ?_ rx
        rw [Int.zero_add]
        exact .int _
  · exact h1.elim⟩
theorem pdi_str (h : PD X E e te de) : PDI X E tg e (iStr te) (dIS de) := ⟨pi_str h.pe, fun R σ H δ η Z Ψ Q l s hw k kx => by
  refine h.so R σ H δ η Z _ _ l s hw ⟨fun v d H1 η1 l1 x1 r1 h1 => ?_, kx⟩
  obtain ⟨x, rfl, h1⟩ := h1
  cases r1 with
  | str o =>
    refine ⟨x, rfl, k _ _ _ H1 η1 l1 x1 (fun R' m1 m2 η H l' x' _ => ?_) h1⟩
    refine ⟨by show x.cps.size ≤ (x.cps.toList.map fun c => D.str ⟨#[c]⟩).length; simp, fun i d hd => ?_⟩
    rw [List.getElem?_map] at hd
    cases e : x.cps.toList[i]? with
    | none => rw [e] at hd; cases hd
    | some c =>
      rw [e] at hd
      have hi : i < x.cps.size := by have := (List.getElem?_eq_some_iff.mp e).1; simpa using this
      refine ⟨hi, fun y H2 yl => ?_⟩
      obtain ⟨rfl, c', hc, rfl⟩ := yl
      have ec : x.cps[i]? = some c := by rw [← Array.getElem?_toList]; exact e
      rw [ec] at hc
      cases hc
      cases hd
      exact ⟨l', fun _ _ h => h, .str (sok_one o (List.mem_of_getElem? e))⟩⟩
end

/-! ### calls with keywords -/
def pick {α : Type} (idx : List Nat) (l : List α) : List α := idx.filterMap fun i => l[i]?
def KB (K : PySem.W.Frag) (fd : FuncData) (ps : List Str) (n : Nat) (ks : List Str) (idx : List Nat) : Prop :=
  ∀ (s : Shared) (us ws : List Value), us.length = n → ws.length = ks.length → BindsTo s fd ⟨us, ks.zip ws⟩ (ps.zip (pick idx (us ++ ws)))
theorem KB.of {K : PySem.W.Frag} {fd : FuncData} {ps : List Str} {n : Nat} {ks : List Str} {idx : List Nat} (h : ∀ us ws : List Value, us.length = n → ws.length = ks.length → bindArgs fd ⟨us, ks.zip ws⟩ = pure (ps.zip (pick idx (us ++ ws)))) : KB K fd ps n ks idx := fun s us ws h1 h2 => .of_eq (h us ws h1 h2)
theorem vals_pick {vs : List V} {us : List Value} (r : Vals vs us) : ∀ idx : List Nat, Vals (pick idx vs) (pick idx us)
  | [] => .nil
  | i :: idx => by
    have t := vals_pick r idx
    unfold pick at *
    rw [List.filterMap_cons, List.filterMap_cons]
    cases e : vs[i]? with
    | none => rw [Vals.none_of r e]; exact t
    | some v =>
      obtain ⟨u, h1, h2⟩ := r.get e
      rw [h1]
      exact .cons h2 t
theorem reps_pick {K : PySem.W.Frag} {R : Addr → Prop} {η : Eta} {H : Hp} {vs : List V} {ds : List D} (r : Reps K R η H vs ds) : ∀ idx : List Nat, Reps K R η H (pick idx vs) (pick idx ds)
  | [] => .nil
  | i :: idx => by
    have t := reps_pick r idx
    unfold pick at *
    rw [List.filterMap_cons, List.filterMap_cons]
    cases e : ds[i]? with
    | none =>
      have : vs[i]? = none := by rw [List.getElem?_eq_none_iff] at e ⊢; rw [r.length]; exact e
      rw [this]; exact t
    | some d =>
      obtain ⟨u, h1, h2⟩ := r.get e
      rw [h1]
      exact .cons h2 t
theorem Vals.append' {xs ys : List V} {us ws : List Value} (a : Vals xs us) (b : Vals ys ws) : Vals (xs ++ ys) (us ++ ws) := L2.Vals.append a b
def tCallKw (n m : Nat) (sp : Sp) (idx : List Nat) (t tk : TA) : TE := fun σ H Q => t σ H fun vs H1 => tk σ H1 fun zs H2 => vs.length = n ∧ zs.length = m ∧ sp (pick idx (vs ++ zs)) H2 Q E0
structure PDK (X : Cx) (E : XK) (kws : List Keyword) (t : TA) (d : DA) : Prop where
  pk : PK X kws t
  so : SoundG X.K E (Reps X.K) t d
def dCallK (c : Ct) (n m : Nat) (idx : List Nat) (da dk : DA) : DE := fun Z δ η Φ => da Z δ η fun us η1 => dk Z δ η1 fun ws η2 => us.length = n ∧ ws.length = m ∧ c (pick idx (us ++ ws)) η2 Φ
section
variable {X : Cx} {E : XK} {k n : Nat} {f : Addr} {fd : FuncData} {ps ks : List Str} {idx : List Nat} {c : Ct} {x : Str} {p pos kpos : Pos} {e : Expr} {es : List Expr} {kws : List Keyword} {ta tk : TA} {te : TE} {de : DE} {da dk : DA} {nm : Option Str}
theorem pdk_nil : PDK X E [] tNil dNil := ⟨pk_nil, so_nil⟩
theorem so_cons {K : PySem.W.Frag} (he : SoundG K E (Rep K) te de) (hr : SoundG K E (Reps K) tk dk) : SoundG K E (Reps K) (tCons te tk) (dCons de dk) := fun R σ H δ η Z Φ Q l s h k => by
  refine he R σ H δ η Z _ _ l s h (k.to fun v1 d1 H1 η1 l1 e1 r1 h1 => ?_)
  refine hr R σ H1 δ η1 Z _ _ l1 (s.up e1) h1 ((k.at_ e1).to fun v2 d2 H2 η2 l2 e2 r2 h2 => ?_)
  exact k.ok _ _ H2 η2 l2 (e1.trans e2) (.cons (r1.up e2) r2) h2
theorem pdk_cons (ha : PD X E e te de) (hr : PDK X E kws tk dk) : PDK X E (⟨nm, e, kpos⟩ :: kws) (tCons te tk) (dCons de dk) := ⟨pk_cons ha.pe hr.pk, so_cons ha.so hr.so⟩
theorem run_kw {pins : List (Addr × Obj)} {σ : L2.St} {H : Hp} {s : Shared} {Q : VK} {sp : Sp} {us ws : List Value} {vs zs : List V} (F : FnOk X.prog X.w X.K X.mg X.base CX0 k f fd ps sp) (hr : Room k X.A) (hb : KB X.K fd ps n ks idx)
    (I : Inv X pins σ H s) (r : Vals vs us) (rz : Vals zs ws) (l1 : vs.length = n) (l2 : zs.length = ks.length) (h : sp (pick idx (vs ++ zs)) H Q E0) : wpAny (model X.prog X.w) X.A (call (.ref f) us (ks.zip ws)) (EP X pins σ Q) X.xe s := by
  refine wpAny_call (codeAny_mono (F.run X.A X.stack s H ⟨us, ks.zip ws⟩ (pick idx (us ++ ws)) (pick idx (vs ++ zs)) Q E0 hr I.env0 (hb s us ws (r.length.symm.trans l1) (rz.length.symm.trans l2)) (vals_pick (Vals.append' r rz) idx) h) fun r s' hq => ?_)
  cases r with
  | error e => exact pass0 (X := X) pins σ H s e s' I hq
  | ok fl =>
    cases fl with
    | ret u => exact I.after hq
    | next => exact False.elim hq
    | brk => exact False.elim hq
    | cont => exact False.elim hq
theorem so_callK {K : PySem.W.Frag} {m : Nat} (ha : SoundG K E (Reps K) ta da) (hk : SoundG K E (Reps K) tk dk) : SoundG K E (Rep K) (tCallKw n m (sp0 K c) idx ta tk) (dCallK c n m idx da dk) := fun R σ H δ η Z Φ Q l s h k => by
  refine ha R σ H δ η Z _ _ l s h (k.to fun vs ds H1 η1 l1 x1 r1 h1 => ?_)
  refine hk R σ H1 δ η1 Z _ _ l1 (s.up x1) h1 ((k.at_ x1).to fun zs es H2 η2 l2 x2 r2 h2 => ?_)
  obtain ⟨e1, e2, h2⟩ := h2
  refine ⟨by rw [r1.length]; exact e1, by rw [r2.length]; exact e2, R, η2, _, Φ, l2, reps_pick ((r1.up x2).append r2) idx, h2, fun v d H' η' l' x' r' h' => k.ok v d H' η' l' ((x1.trans x2).trans x') r' h'⟩
theorem pd_callK0 (F : FnOk X.prog X.w X.K X.mg X.base CX0 k f fd ps (sp0 X.K c)) (hr : Room k X.A) (hg : Gl X x) (hm : X.mg x = some (.ref f)) (hk : PySem.W.keepIn X.K (.ref f) = true) (hb : KB X.K fd ps 0 ks idx) (hkw : PDK X E kws tk dk)
    (hall : (backToKw pos (keywordEach kws X.env)).all (·.1.isSome) = true := by rfl) (hks : (backToKw pos (keywordEach kws X.env)).filterMap (·.1) = ks := by rfl) (hdb : (x == ("__debug__" : Str)) = false := by decide)
    (hpl : ((backTo pos (starEach [] X.env)).any (·.1) || (backToKw pos (keywordEach kws X.env)).any (·.1.isNone)) = false := by rfl) :
    PD X E (.Call (.Name x p) [] kws pos) (tCallKw 0 ks.length (sp0 X.K c) idx tNil tk) (dCallK c 0 ks.length idx dNil dk) := ⟨by
  refine ⟨fun pins s σ H Q I h => ?_⟩
  refine wpAny_Call_Name_kw (ld_glob I hg hm ?_ hdb)
  refine PySem.W.callWith_KW0 (h₀ := X.base) I.ok.mod.kin hk hall ?_ hpl
  refine thn (hkw.pk.run pos pins s σ H _ I h) fun ws s2 ⟨zs, H2, I2, rz, l1, l2, q2⟩ => ⟨I2.kIn, ?_⟩
  rw [hks]
  exact run_kw (us := []) (vs := []) F hr hb I2 .nil rz rfl l2 q2, so_callK so_nil hkw.so⟩
theorem pd_callK (F : FnOk X.prog X.w X.K X.mg X.base CX0 k f fd ps (sp0 X.K c)) (hr : Room k X.A) (hg : Gl X x) (hm : X.mg x = some (.ref f)) (hk : PySem.W.keepIn X.K (.ref f) = true) (hb : KB X.K fd ps n ks idx) (ha : PDA X E (e :: es) ta da) (hkw : PDK X E kws tk dk)
    (hall : (backToKw pos (keywordEach kws X.env)).all (·.1.isSome) = true := by rfl) (hks : (backToKw pos (keywordEach kws X.env)).filterMap (·.1) = ks := by rfl) (hdb : (x == ("__debug__" : Str)) = false := by decide)
    (he : starEach (e :: es) X.env = (false, eval e X.env) :: starEach es X.env := by rfl)
    (hpl : ((backTo pos (starEach (e :: es) X.env)).any (·.1) || (backToKw pos (keywordEach kws X.env)).any (·.1.isNone)) = false := by rfl) :
    PD X E (.Call (.Name x p) (e :: es) kws pos) (tCallKw n ks.length (sp0 X.K c) idx ta tk) (dCallK c n ks.length idx da dk) := ⟨by
  refine ⟨fun pins s σ H Q I h => ?_⟩
  refine wpAny_Call_Name_kw (ld_glob I hg hm ?_ hdb)
  refine PySem.W.callWith_KW (h₀ := X.base) I.ok.mod.kin hk hall (thn (ha.pa.run pos pins s σ H _ I h) fun us s1 ⟨vs, H1, I1, r, q⟩ => ?_) hpl he
  refine thn (hkw.pk.run pos pins s1 σ H1 _ I1 q) fun ws s2 ⟨zs, H2, I2, rz, l1, l2, q2⟩ => ⟨I2.kIn, ?_⟩
  rw [hks]
  exact run_kw F hr hb I2 r rz l1 l2 q2, so_callK ha.so hkw.so⟩
end

/-! ### loops by a word -/
theorem dForL_by {g : DG} {body : DS} {Z : Xk} {P : DEnds} {G : Eta → Prop} {items : List D} (I : DSt → Eta → Prop) (nil : ∀ δ η, I δ η → G η ∧ P.nx δ η)
    (step : ∀ x, x ∈ items → ∀ δ η (N : DSt → Eta → Prop), I δ η → (∀ δ' η', I δ' η' → N δ' η') → G η ∧ g x δ η fun δ1 η1 => body Z ⟨N, P.rt, P.nx, N⟩ δ1 η1) : ∀ xs : List D, (∀ x ∈ xs, x ∈ items) → ∀ δ η, I δ η → dForL g body Z P G xs δ η
  | [], _, δ, η, h => nil δ η h
  | x :: xs, hm, δ, η, h => step x (hm x List.mem_cons_self) δ η _ h fun δ' η' h' => dForL_by I nil step xs (fun y hy => hm y (List.mem_cons_of_mem _ hy)) δ' η' h'
/-- the word speaks of the items done -/
theorem dForL_pre {g : DG} {body : DS} {Z : Xk} {P : DEnds} {G : Eta → Prop} {items : List D} (I : List D → DSt → Eta → Prop) (nil : ∀ δ η, I items δ η → G η ∧ P.nx δ η)
    (step : ∀ pre x post, items = pre ++ x :: post → ∀ δ η (N : DSt → Eta → Prop), I pre δ η → (∀ δ' η', I (pre ++ [x]) δ' η' → N δ' η') → G η ∧ g x δ η fun δ1 η1 => body Z ⟨N, P.rt, P.nx, N⟩ δ1 η1) : ∀ pre xs : List D, items = pre ++ xs → ∀ δ η, I pre δ η → dForL g body Z P G xs δ η
  | pre, [], e, δ, η, h => nil δ η (by rw [e, List.append_nil]; exact h)
  | pre, x :: xs, e, δ, η, h => step pre x xs e δ η _ h fun δ' η' h' => dForL_pre I nil step (pre ++ [x]) xs (by rw [e, List.append_assoc]; rfl) δ' η' h'
/-- a comprehension by a word over the items done and what was made -/
theorem dLcL_pre {g : DG} {tt : DT} {te : DE} {δ : DSt} {Z : Xk} {G : Eta → Prop} {Φ : DK} {items : List D} (I : List D → List D → Eta → Prop) (nil : ∀ acc η, I items acc η → G η ∧ Φ (.lst acc) η)
    (step : ∀ pre x post, items = pre ++ x :: post → ∀ acc η (N : List D → Eta → Prop), I pre acc η → (∀ acc' η', I (pre ++ [x]) acc' η' → N acc' η') → G η ∧ g x δ η fun δ2 η2 => tt Z0 δ2 η2 fun b η3 => if b = true then te Z0 δ2 η3 fun y η4 => acc.length < sizeLine ∧ N (acc ++ [y]) η4 else N acc η3) :
    ∀ pre xs : List D, items = pre ++ xs → ∀ acc η, I pre acc η → dLcL g tt te δ Z G Φ xs acc η
  | pre, [], e, acc, η, h => nil acc η (by rw [e, List.append_nil]; exact h)
  | pre, x :: xs, e, acc, η, h => step pre x xs e acc η _ h fun acc' η' h' => dLcL_pre I nil step (pre ++ [x]) xs (by rw [e, List.append_assoc]; rfl) acc' η' h'
/-- .. that makes f of each item and changes nothing -/
theorem dLcL_map {g : DG} {te : DE} {δ : DSt} {Z : Xk} {G : Eta → Prop} {Φ : DK} {items : List D} {η : Eta} (f : D → D) (hl : items.length ≤ 16777216) (hG : G η) (nil : Φ (.lst (items.map f)) η)
    (step : ∀ x, x ∈ items → ∀ N : DK, N (f x) η → g x δ η fun δ2 η2 => te Z0 δ2 η2 N) : dLcL g dYes te δ Z G Φ items [] η := by
  refine dLcL_pre (items := items) (fun pre acc η' => η' = η ∧ acc = pre.map f) (fun acc η' h => ?_) (fun pre x post e acc η' N h n => ?_) [] items rfl [] η ⟨rfl, rfl⟩
  · obtain ⟨rfl, rfl⟩ := h; exact ⟨hG, nil⟩
  · obtain ⟨rfl, rfl⟩ := h
    refine ⟨hG, ?_⟩
    have hx : x ∈ items := by rw [e]; simp
    have hlen : (pre.map f).length < sizeLine := by
      rw [sizeLine_eq, List.length_map]
      have := congrArg List.length e
      rw [List.length_append, List.length_cons] at this
      omega
    show g x δ η' fun δ2 η2 => (if true = true then te Z0 δ2 η2 fun y η4 => (pre.map f).length < sizeLine ∧ N (pre.map f ++ [y]) η4 else N (pre.map f) η2)
    simp only [if_true]
    exact step x hx _ ⟨hlen, n _ _ ⟨rfl, by simp⟩⟩

/-! ### the law's end -/
theorem law_end {l : PySem.W.OpenLaw} {k : Nat} {q : Program} {loose : List Str} {XP : (Str → Option Value) → Heap → Prop} {YP : World → Heap → Prop} {d : DefRec} {K : Params → PySem.W.Frag} {c : Ct} {x : Str}
    (hn : l.most = some 63) (hdf : d.params.defaults = []) (hr : Room k callerA) (hY : ∀ (w : World) (h : Heap), YP w h → (K w.params).In h)
    (F : ∀ (w : World) (mg : Str → Option Value) (fa : Addr) (h : Heap), (K w.params).In h → h.Ns mainGlobals mg → mg d.name = some (.ref fa) →
      ∃ fd : FuncData, (∀ (s : Shared) (u : Value), BindsTo s fd ⟨[u], []⟩ [(x, u)]) ∧ ∀ base : Heap, (K w.params).In base → base.Ns mainGlobals mg → FnOk l.prog w (K w.params) mg base CX0 k fa fd [x] (sp0 (K w.params) c))
    (hc : ∀ (ns : List Int) (Φ : DK), ns.length ≤ 63 → (∀ η, Φ (.bl true) η) → c [.klst (ns.map D.int)] (fun _ => none) Φ) :
    PySem.W.WalkO q loose XP YP l.row.toRowW d [] (fun f vs => PySem.call f vs) :=
  walk_of (n := 63) (k := k) (x := x) (CX := fun _ => CX0) (sp := fun w => sp0 (K w.params) c) hn (by decide) hdf hr hY F (fun w H a ns hl hO hS => by
    have l0 : Lk (K w.params) (fun _ => False) (fun _ => none) H := Lk.mk (fun a m e => nomatch e) (fun a z => False.elim z)
    refine ⟨fun _ => False, fun _ => none, [.klst (ns.map D.int)], fun d _ => d = .bl true, l0, .cons ?_ .nil, hc ns _ hl fun _ => rfl, fun v d H' η' l' x' r' h' => ?_⟩
    · rcases hS with h | ⟨o, its, n, h1, h2, h3, h4, h5, h6⟩
      · exact .klst h rfl (fun z => z) (Reps.of_ints ns)
      · exact .klstK h1 h2 h3 h4 h5 h6 (Reps.of_ints ns)
    · subst h'; cases r'; rfl) fun _ _ _ _ _ z => z
end DL
end
section
set_option Elab.async false
set_option linter.all false
set_option autoImplicit false
set_option maxRecDepth 100000
set_option maxHeartbeats 4000000
/-! DL6: the rules with the written part K named (for use within a comprehension's block). -/
namespace DL
open PySem PySem.Spec PyProof.Rows L2
section
variable {X : Cx} {K : PySem.W.Frag} (hK : X.K = K)
include hK
theorem kd_eq (hu : X.A.units + 64 < cLine) : OpD X (compareOp .Eq) (rEqG K) oEq := by subst hK; exact od_eq hu
theorem kd_ne (hu : X.A.units + 64 < cLine) : OpD X (compareOp .NotEq) (rNeG K) oNe := by subst hK; exact od_ne hu
theorem kd_add : OpD X (binaryOp .Add) (rAddU K) oAdd := by subst hK; exact od_add
theorem kd_in (hu : X.A.units + 64 < cLine) : OpD X (compareOp .In) (rInU K) (oInB false) := by subst hK; exact od_in hu
theorem kd_notIn (hu : X.A.units + 64 < cLine) : OpD X (compareOp .NotIn) (rNotInU K) (oInB true) := by subst hK; exact od_notIn hu
theorem kd_ix : IxD X (rIxU K) oIx := by subst hK; exact ixd
theorem kd_sl : SlD X (rSlU K) oSl := by subst hK; exact sld
theorem kl_len : ClD X (.builtin "len") (rLenU K) oLen := by subst hK; exact cl_len
theorem kl_list : ClD X (.type "list") (rListU K) oList := by subst hK; exact cl_list
theorem kl_listM : ClD X (.type "list") (rListU K) oListM := by subst hK; exact cl_listM
theorem kl_tuple : ClD X (.type "tuple") (rTupU K) oTup := by subst hK; exact cl_tuple
theorem kl_all (hc : X.calm = true) : ClD X (.builtin "all") (rAll K) oAll := by subst hK; exact cl_all hc
theorem kl_any (hc : X.calm = true) : ClD X (.builtin "any") (rAny K) oAny := by subst hK; exact cl_any hc
theorem kl_sum (hc : X.calm = true) : ClD X (.builtin "sum") (rSum K) oSum := by subst hK; exact cl_sum hc
theorem kl_isi : ClD X (.builtin "isinstance") (rIsiU K) oIsi := by subst hK; exact cl_isi
theorem kd_rev {E : XK} {e : Expr} {te : TE} {de : DE} {k : Nat} {p1 p2 p3 pos : Pos} (he : PD X E e te de) : PD X E (.Subscript e (.Slice none none (some (.UnaryOp .USub (.Constant (.int 1) k p1) p2)) p3) pos) (tRevL K te) (dUn oRev de) := by subst hK; exact pd_rev he
theorem kdi_list {E : XK} {tg e : Expr} {te : TE} {de : DE} (h : PD X E e te de) : PDI X E tg e (iList K te) (dIL de) := by subst hK; exact pdi_list h
theorem kdi_tup {E : XK} {tg e : Expr} {te : TE} {de : DE} (h : PD X E e te de) : PDI X E tg e (iTup K te) (dIT de) := by subst hK; exact pdi_tup h
theorem kdi_zip {E : XK} {e e2 : Expr} {ta : TA} {da : DA} {p pos tpos : Pos} {elts : List Expr} {kk : Nat} (hg : Gl X "zip") (hm : X.mg "zip" = none) (ha : PDA X E [e, e2] ta da) (hs : starEach [e, e2] X.env = (false, eval e X.env) :: starEach [e2] X.env := by rfl) (hpl : (backTo pos (starEach [e2] X.env)).any (·.1) = false := by rfl) :
    PDI X E (.Tuple elts kk tpos) (.Call (.Name "zip" p) [e, e2] [] pos) (RZ.iZipA K ta) (dIZ da) := by subst hK; exact pdi_zip hg hm ha hs hpl
theorem kdi_enum {E : XK} {e : Expr} {ta : TA} {da : DA} {p pos tpos : Pos} {elts : List Expr} {kk : Nat} (hg : Gl X "enumerate") (hm : X.mg "enumerate" = none) (ha : PDA X E [e] ta da) (hs : starEach [e] X.env = [(false, eval e X.env)] := by rfl) :
    PDI X E (.Tuple elts kk tpos) (.Call (.Name "enumerate" p) [e] [] pos) (iEnum K ta) (dIE da) := by subst hK; exact pdi_enum hg hm ha hs
theorem kdg_tup {es : List Expr} {k : Nat} {gs : TGs} {dgs : DGs} {n : Nat} {pos : Pos} (hc : X.calm = true) (h : PDGs X es gs dgs) (hn : (assignEach es X.env).length = n := by rfl) (hst : (assignEach es X.env).findIdx? (·.1) = none := by rfl) : PDG X (.Tuple es k pos) (gTup K n gs) (dTupG n dgs) := by subst hK; exact pdg_tup hc h hn hst
end
/-- where a def's body stands -/
def XIs (X : Cx) (P : Program) (w : World) (K : PySem.W.Frag) (mg : Str → Option Value) (base : Heap) : Prop := X.prog = P ∧ X.w = w ∧ X.K = K ∧ X.mg = mg ∧ X.base = base
section
variable {X : Cx} {P : Program} {w : World} {K : PySem.W.Frag} {mg : Str → Option Value} {base : Heap} {E : XK} {k n : Nat} {f : Addr} {fd : FuncData} {ps ks : List Str} {idx : List Nat} {c : Ct} {dvs : List V} {dds : List D} {dsV : List Value} {x : Str} {p pos : Pos} {e : Expr} {es : List Expr} {kws : List Keyword} {ta tk : TA} {da dk : DA}
theorem kd_call (hX : XIs X P w K mg base) (F : FnOk P w K mg base CX0 k f fd ps (sp0 K c)) (hr : Room k X.A) (hg : Gl X x) (hm : mg x = some (.ref f)) (hk : PySem.W.keepIn K (.ref f) = true) (hb : Binds K fd ps dsV) (hv : Vals dvs dsV) (hd : ∀ R η H, Reps K R η H dvs dds)
    (ha : PDA X E (e :: es) ta da) (hdb : (x == ("__debug__" : Str)) = false := by decide) (he : starEach (e :: es) X.env = (false, eval e X.env) :: starEach es X.env := by rfl) (hpl : (backTo pos (starEach es X.env)).any (·.1) = false := by rfl) :
    PD X E (.Call (.Name x p) (e :: es) [] pos) (tCall (sp0 K c) dvs E0 ta) (dCall c dds da) := by
  obtain ⟨rfl, rfl, rfl, rfl, rfl⟩ := hX; exact pd_call F hr hg hm hk hb hv hd ha hdb he hpl
theorem kd_call0 (hX : XIs X P w K mg base) (F : FnOk P w K mg base CX0 k f fd ps (sp0 K c)) (hr : Room k X.A) (hg : Gl X x) (hm : mg x = some (.ref f)) (hk : PySem.W.keepIn K (.ref f) = true) (hb : Binds K fd ps dsV) (hv : Vals dvs dsV) (hd : ∀ R η H, Reps K R η H dvs dds)
    (hdb : (x == ("__debug__" : Str)) = false := by decide) : PD X E (.Call (.Name x p) [] [] pos) (tCall (sp0 K c) dvs E0 tNil) (dCall c dds dNil) := by
  obtain ⟨rfl, rfl, rfl, rfl, rfl⟩ := hX; exact pd_call0 F hr hg hm hk hb hv hd hdb
theorem kd_callK0 (hX : XIs X P w K mg base) (F : FnOk P w K mg base CX0 k f fd ps (sp0 K c)) (hr : Room k X.A) (hg : Gl X x) (hm : mg x = some (.ref f)) (hk : PySem.W.keepIn K (.ref f) = true) (hb : KB K fd ps 0 ks idx) (hkw : PDK X E kws tk dk)
    (hall : (backToKw pos (keywordEach kws X.env)).all (·.1.isSome) = true := by rfl) (hks : (backToKw pos (keywordEach kws X.env)).filterMap (·.1) = ks := by rfl) (hdb : (x == ("__debug__" : Str)) = false := by decide)
    (hpl : ((backTo pos (starEach [] X.env)).any (·.1) || (backToKw pos (keywordEach kws X.env)).any (·.1.isNone)) = false := by rfl) :
    PD X E (.Call (.Name x p) [] kws pos) (tCallKw 0 ks.length (sp0 K c) idx tNil tk) (dCallK c 0 ks.length idx dNil dk) := by
  obtain ⟨rfl, rfl, rfl, rfl, rfl⟩ := hX; exact pd_callK0 F hr hg hm hk hb hkw hall hks hdb hpl
theorem kd_callK (hX : XIs X P w K mg base) (F : FnOk P w K mg base CX0 k f fd ps (sp0 K c)) (hr : Room k X.A) (hg : Gl X x) (hm : mg x = some (.ref f)) (hk : PySem.W.keepIn K (.ref f) = true) (hb : KB K fd ps n ks idx) (ha : PDA X E (e :: es) ta da) (hkw : PDK X E kws tk dk)
    (hall : (backToKw pos (keywordEach kws X.env)).all (·.1.isSome) = true := by rfl) (hks : (backToKw pos (keywordEach kws X.env)).filterMap (·.1) = ks := by rfl) (hdb : (x == ("__debug__" : Str)) = false := by decide)
    (he : starEach (e :: es) X.env = (false, eval e X.env) :: starEach es X.env := by rfl)
    (hpl : ((backTo pos (starEach (e :: es) X.env)).any (·.1) || (backToKw pos (keywordEach kws X.env)).any (·.1.isNone)) = false := by rfl) :
    PD X E (.Call (.Name x p) (e :: es) kws pos) (tCallKw n ks.length (sp0 K c) idx ta tk) (dCallK c n ks.length idx da dk) := by
  obtain ⟨rfl, rfl, rfl, rfl, rfl⟩ := hX; exact pd_callK F hr hg hm hk hb ha hkw hall hks hdb he hpl
end
/-- a contract that asks for nothing is kept -/
theorem fn_false {P : Program} {w : World} {K : PySem.W.Frag} {mg : Str → Option Value} {base : Heap} {k : Nat} {f : Addr} {fd : FuncData} {ps : List Str} {c : Ct} (h : ∀ ds η Φ, ¬ c ds η Φ) : FnOk P w K mg base CX0 k f fd ps (sp0 K c) :=
  ⟨fun vs H Q E q => by obtain ⟨R, η, ds, Φ, _, _, z, _⟩ := q; exact (h _ _ _ z).elim, fun A outer s H args us vs Q E _ _ _ _ q => by obtain ⟨R, η, ds, Φ, _, _, z, _⟩ := q; exact (h _ _ _ z).elim⟩
end DL
namespace DL
/-- a word between two statements -/
theorem dSeq_by {t u : DS} {Z : Xk} {P : DEnds} {δ : DSt} {η : Eta} (I : DSt → Eta → Prop) (h1 : ∀ N : DSt → Eta → Prop, (∀ δ' η', I δ' η' → N δ' η') → t Z ⟨N, P.rt, P.bk, P.ct⟩ δ η) (h2 : ∀ δ' η', I δ' η' → u Z P δ' η') : dSeq t u Z P δ η := h1 _ h2
/-- a word between a test and its branches -/
theorem dIfS_by {c : DT} {t u : DS} {Z : Xk} {P : DEnds} {δ : DSt} {η : Eta} (I : Bool → Eta → Prop) (h1 : ∀ N : Bool → Eta → Prop, (∀ b η', I b η' → N b η') → c Z δ η N) (ht : ∀ η', I true η' → t Z P δ η') (hf : ∀ η', I false η' → u Z P δ η') : dIfS c t u Z P δ η := h1 _ fun b η' h => by
  cases b with
  | true => exact ht η' h
  | false => exact hf η' h
end DL
end
section
set_option Elab.async false
set_option linter.all false
set_option autoImplicit false
set_option maxRecDepth 100000
set_option maxHeartbeats 4000000
/-! DL7: methods of texts, repeated lists, more built-ins. -/
namespace DL
open PySem PySem.Spec PyProof.Rows L2
abbrev DMt := D → List D → Eta → DK → Prop
structure MtD (X : Cx) (id : String) (r : V → List V → Hp → VK → Prop) (o : DMt) : Prop where
  op : MtR X id r
  so : ∀ (R : Addr → Prop) (η : Eta) (H : Hp) (x : V) (xs : List V) (dx : D) (ds : List D) (Φ : DK) (Q : VK), Lk X.K R η H → Rep X.K R η H x dx → Reps X.K R η H xs ds → o dx ds η Φ →
    (∀ v d H' η', Lk X.K R η' H' → Ext η H η' H' → Rep X.K R η' H' v d → Φ d η' → Q v H') → r x xs H Q
section
variable {X : Cx} {E : XK} {a b e : Expr} {ta tb te : TE} {da db de : DE} {pos : Pos}
def dM1 (o : DMt) (da db : DE) : DE := fun Z δ η Φ => da Z δ η fun x η1 => (∃ z, x = .str z) ∧ db Z δ η1 fun y η2 => o x [y] η2 Φ
theorem so_m1 {id : String} {r : V → List V → Hp → VK → Prop} {o : DMt} (ho : MtD X id r o) (ha : SoundG X.K E (Rep X.K) ta da) (hb : SoundG X.K E (Rep X.K) tb db) : SoundG X.K E (Rep X.K) (tM1 r ta tb) (dM1 o da db) := fun R σ H δ η Z Φ Q l s h k => by
  refine ha R σ H δ η Z _ _ l s h (k.to fun v1 d1 H1 η1 l1 e1 r1 h1 => ?_)
  obtain ⟨⟨z, rfl⟩, h1⟩ := h1
  cases r1 with
  | str hz =>
    refine ⟨⟨z, rfl⟩, ?_⟩
    refine hb R σ H1 δ η1 Z _ _ l1 (s.up e1) h1 ((k.at_ e1).to fun v2 d2 H2 η2 l2 e2 r2 h2 => ?_)
    exact ho.so R η2 H2 _ [v2] _ [d2] Φ Q l2 (.str hz) (.cons r2 .nil) h2 fun v d H' η' l' e' r' h' => k.ok v d H' η' l' ((e1.trans e2).trans e') r' h'
theorem pd_m1 {id : String} {name : Str} {apos : Pos} {r : V → List V → Hp → VK → Prop} {o : DMt} (slot : Slot "str" name id) (ty : typeOf (.builtin id) = pure (.type "method_descriptor")) (rule : MtD X id r o) (ho : PD X E a ta da) (he : PD X E b tb db)
    (hs : starEach [b] X.env = [(false, eval b X.env)] := by rfl) (hbase : attributeBase a name X.env (eval a X.env) = eval a X.env := by rfl) (hline : (apos.endLine == pos.line) = true := by rfl) :
    PD X E (.Call (.Attribute a name apos) [b] [] pos) (tM1 r ta tb) (dM1 o da db) := ⟨pe_m1 slot ty rule.op ho.pe he.pe hs hbase hline, so_m1 rule ho.so he.so⟩
end
/-! ### join -/
theorem sok_join {a : Str} : ∀ {ys : List Str}, SOk a → (∀ y ∈ ys, SOk y) → PyData.strOk (Str.join a ys) = true
  | [], _, _ => by show PyData.strOk Str.empty = true; decide +kernel
  | [x], _, h => (h x List.mem_cons_self).cp
  | x :: y :: ys, ha, h => by
    have h1 := (h x List.mem_cons_self).cp
    have h2 := ha.cp
    have h3 := sok_join (ys := y :: ys) ha fun z hz => h z (List.mem_cons_of_mem _ hz)
    rw [PyProof.Rows.join_cons_cons]
    show PyData.strOk ⟨(x.cps ++ a.cps) ++ (Str.join a (y :: ys)).cps⟩ = true
    unfold PyData.strOk at *
    rw [Array.all_append, Array.all_append, h1, h2, h3]; rfl
def oJoin : DMt := fun x ds η Φ => ∃ a y ys, x = .str a ∧ ds = [y] ∧ asS η y = some (ys.map D.str) ∧ (ys.map (·.length)).sum + ys.length * a.length ≤ 16777216 ∧ Φ (.str (Str.join a ys)) η
def rJoin (K : PySem.W.Frag) : V → List V → Hp → VK → Prop := fun x xs H Q => ∃ a p, ∃ ys : List Str, x = .str a ∧ xs = [.ref p] ∧ (SqL K H p (ys.map V.str) ∨ SqT K H p (ys.map V.str)) ∧ (ys.map (·.length)).sum + ys.length * a.length ≤ 16777216 ∧ Q (.str (Txt.join a ys)) H
theorem reps_sok {K : PySem.W.Frag} {R : Addr → Prop} {η : Eta} {H : Hp} : ∀ {ys : List Str} {vs : List V}, Reps K R η H vs (ys.map D.str) → ∀ y ∈ ys, SOk y
  | [], _, _, y, hy => by cases hy
  | x :: xs, _, h, y, hy => by
    cases h with
    | cons a b =>
      cases a with
      | str hz =>
        rcases List.mem_cons.mp hy with rfl | hy
        · exact hz
        · exact reps_sok b y hy
theorem mt_joinD {X : Cx} : MtD X "str.join" (rJoin X.K) oJoin := ⟨mt_join, fun R η H x xs dx ds Φ Q l rx rs h k => by
  obtain ⟨a, y, ys, rfl, rfl, h1, h2, h⟩ := h
  cases rx with
  | str ha =>
    cases rs with
    | cons r1 r2 =>
      cases r2
      obtain ⟨p, vs, rfl, h3, h4⟩ := asS_ok l r1 h1
      have e := h4.strs
      subst e
      have hs := reps_sok h4
      have e2 : Txt.join a ys = Str.join a ys := StrLaws.glued_eq_join a ys
      refine ⟨a, p, ys, rfl, rfl, h3, h2, ?_⟩
      rw [e2]
      exact k _ _ H η l (Ext.refl _ _) (.str ⟨sok_join ha hs, Nat.le_trans (StrLaws.join_length_le a ys) (by rw [sizeLine_eq]; exact h2)⟩) h⟩
/-! ### [x] * n -/
theorem reps_rep {K : PySem.W.Frag} {R : Addr → Prop} {η : Eta} {H : Hp} {vs : List V} {ds : List D} (r : Reps K R η H vs ds) : ∀ n : Nat, Reps K R η H (List.replicate n vs).flatten (List.replicate n ds).flatten
  | 0 => .nil
  | n + 1 => by rw [List.replicate_succ, List.replicate_succ, List.flatten_cons, List.flatten_cons]; exact r.append (reps_rep r n)
def oRep : DR2 := fun x y η Φ => ∃ xs k, asL η x = some xs ∧ y = .int k ∧ -(2 ^ 62) ≤ k ∧ k < 2 ^ 62 ∧ xs.length * k.toNat ≤ sizeLine ∧ Φ (.lst (List.replicate k.toNat xs).flatten) η
def rRepL : R2 := fun x y H Q => ∃ l k xs, x = .ref l ∧ y = .int k ∧ Rd H l (.lst xs) ∧ -(2 ^ 63) ≤ k ∧ k < 2 ^ 63 ∧ xs.length * k.toNat ≤ sizeLine ∧ ∀ p, H p = none → Q (.ref p) (upd H p (.lst (List.replicate k.toNat xs).flatten))
theorem op_repL {X : Cx} : OpR X (binaryOp .Mult) rRepL := fun pins s σ H x y v u Q I rx ry h => by
  obtain ⟨ad, j, ys, rfl, rfl, hR, lo, hi, hs, q⟩ := h
  cases rx; obtain ⟨tk, rfl⟩ := ry
  obtain ⟨-, us, n, r, g⟩ := hR.ok I.hok
  have hn : us.toArray.size * j.toNat ≤ sizeLine := by rw [List.size_toArray, ← r.length]; exact hs
  have c1 : ¬ us.toArray.size * j.toNat > (2 ^ 63 - 1) / 8 := by have := (by decide : (sizeLine : Nat) ≤ (2 ^ 63 - 1) / 8); omega
  have c2 : ¬ (!Builtin.List.listFitsIndex j) = true := by rw [fitsIndex_both lo hi]; decide
  have c3 : ¬ Builtin.List.listTooLong (us.toArray.size * j.toNat) = true := by rw [notLongL hn]; decide
  have c4 : List.foldl (fun p q => p ++ q) #[] (List.replicate (if us.toArray.isEmpty = true then 0 else j.toNat) us.toArray) = (List.replicate j.toNat us).flatten.toArray := by
    have z : ∀ m : Nat, List.foldl (fun p q => p ++ q) #[] (List.replicate m us.toArray) = (List.replicate m us).flatten.toArray := fun m => by simpa using foldl_rep us m []
    rw [z]
    cases us with
    | nil => simp
    | cons c d => rw [if_neg (by simp)]
  refine wpAny_binaryOp_repeat_ref (T := "list") (U := "int") (by decide) ⟨_, g, rfl⟩ (fun s2 => typeIs_int s2 j tk) noFill_list_mul F.fills_int_mul F.slot_int_rmul repeat_list F.slot_int_index.lookup (call_meets F.slot_int_rmul (typeIs_int s j tk) F.entry_int_rmul (F.args_int_rmul_2 _ _) (int___rmul___int_list j tk ad us.toArray n) ⟨g, rfl, ⟨_, g, rfl⟩, call_meets F.slot_list_mul ⟨_, g, rfl⟩ F.entry_list_mul (F.args_list_mul_2 _ _) (AutoListH.list___mul___list_int_3 ad us.toArray n j tk c2 c1 c3) ⟨g, ?_⟩⟩)
  rw [c4]
  exact ⟨.ref _, _, I.lnew (t' := s.toks) (r.rep j.toNat) (by rw [PyProof.Rows.lm_len_rep_flat, Nat.mul_comm]; exact hs), rfl, q _ I.fresh⟩
theorem od_rep {X : Cx} : OpD X (binaryOp .Mult) rRepL oRep := ⟨op_repL, fun R η H x y dx dy Φ Q l rx ry h k => by
  obtain ⟨xs, i, h1, rfl, h2, h3, h4, h⟩ := h
  cases ry
  obtain ⟨p, vs, rfl, h5, h6⟩ := asL_ok l rx h1
  have e := h6.length
  exact ⟨p, i, vs, rfl, rfl, h5, by omega, by omega, by rw [e]; exact h4, new_lst l (reps_rep h6 _) h k⟩⟩
/-! ### more built-ins -/
def oAbs : DCl := fun ds η Φ => match ds with
  | [.int i] => Φ (.int (if i < 0 then -i else i)) η
  | _ => False
theorem cl_abs {X : Cx} : ClD X (.builtin "abs") (fun xs H Q => ∃ i, xs = [.int i] ∧ Q (.int (if i < 0 then -i else i)) H) oAbs := ⟨call_abs, fun R η H xs ds Φ Q l r h k => by
  unfold oAbs at h
  split at h
  · cases r with
    | cons r1 r2 => cases r1; cases r2; exact ⟨_, rfl, k _ _ H η l (Ext.refl _ _) (.int _) h⟩
  · exact h.elim⟩
def oMax : DCl := fun ds η Φ => match ds with
  | [.int i, .int j] => Φ (.int (max i j)) η
  | _ => False
def oMin : DCl := fun ds η Φ => match ds with
  | [.int i, .int j] => Φ (.int (min i j)) η
  | _ => False
theorem cl_max {X : Cx} (hc : X.calm = true) : ClD X (.builtin "max") (fun xs H Q => ∃ i j, xs = [.int i, .int j] ∧ Q (.int (if j > i then j else i)) H) oMax := ⟨call_max2 hc, fun R η H xs ds Φ Q l r h k => by
  unfold oMax at h
  split at h
  · rename_i i j
    cases r with
    | cons r1 r2 =>
      cases r1
      cases r2 with
      | cons r3 r4 =>
        cases r3; cases r4
        refine ⟨_, _, rfl, k _ _ H η l (Ext.refl _ _) (.int _) ?_⟩
        have e : (if j > i then j else i) = max i j := by split <;> omega
        rw [e]; exact h
  · exact h.elim⟩
theorem cl_min {X : Cx} (hc : X.calm = true) : ClD X (.builtin "min") (fun xs H Q => ∃ i j, xs = [.int i, .int j] ∧ Q (.int (if j < i then j else i)) H) oMin := ⟨call_min2 hc, fun R η H xs ds Φ Q l r h k => by
  unfold oMin at h
  split at h
  · rename_i i j
    cases r with
    | cons r1 r2 =>
      cases r1
      cases r2 with
      | cons r3 r4 =>
        cases r3; cases r4
        refine ⟨_, _, rfl, k _ _ H η l (Ext.refl _ _) (.int _) ?_⟩
        have e : (if j < i then j else i) = min i j := by split <;> omega
        rw [e]; exact h
  · exact h.elim⟩
section
variable {X : Cx} {K : PySem.W.Frag} (hK : X.K = K)
include hK
theorem kd_join {E : XK} {a b : Expr} {ta tb : TE} {da db : DE} {pos apos : Pos} (ho : PD X E a ta da) (he : PD X E b tb db)
    (hs : starEach [b] X.env = [(false, eval b X.env)] := by rfl) (hbase : attributeBase a "join" X.env (eval a X.env) = eval a X.env := by rfl) (hline : (apos.endLine == pos.line) = true := by rfl) :
    PD X E (.Call (.Attribute a "join" apos) [b] [] pos) (tM1 (rJoin K) ta tb) (dM1 oJoin da db) := by subst hK; exact pd_m1 F.slot_str_join F.type_str_join mt_joinD ho he hs hbase hline
end
end DL
end
section
set_option Elab.async false
set_option linter.all false
set_option maxRecDepth 100000
set_option maxHeartbeats 4000000
namespace Mine
open PySem PySem.Spec PyProof.Rows L2 DL
def top (i : Nat) : Stmt := PySem.Challenge.pw_headhold_k21_events_judged.main.body.getD i (.Pass ⟨0, 0, 0, 0⟩)

abbrev s_is_number : Stmt := top 1
abbrev n_is_number : List Str := ["value", "least", "most"]
theorem sc_is_number : FnScope n_is_number ["value", "least", "most"] (defScope s_is_number) := ⟨rfl, rfl, rfl, by decide +kernel, rfl, by decide +kernel, by decide +kernel⟩
abbrev s_is_byte : Stmt := top 2
abbrev n_is_byte : List Str := ["value"]
theorem sc_is_byte : FnScope n_is_byte ["value"] (defScope s_is_byte) := ⟨rfl, rfl, rfl, by decide +kernel, rfl, by decide +kernel, by decide +kernel⟩
abbrev s__law_bag : Stmt := top 7
abbrev n__law_bag : List Str := ["_law_script", "_law_mixed", "_law_cell"]
theorem sc__law_bag : FnScope n__law_bag ["_law_script"] (defScope s__law_bag) := ⟨rfl, rfl, rfl, by decide +kernel, rfl, by decide +kernel, by decide +kernel⟩
abbrev s__law_pull : Stmt := top 8
abbrev n__law_pull : List Str := ["_law_bag_here", "_law_many", "_law_cell", "_law_digit", "_law_seed"]
theorem sc__law_pull : FnScope n__law_pull ["_law_bag_here", "_law_many"] (defScope s__law_pull) := ⟨rfl, rfl, rfl, by decide +kernel, rfl, by decide +kernel, by decide +kernel⟩
abbrev s__law_of : Stmt := top 10
abbrev n__law_of : List Str := ["_law_bag_here", "_law_some"]
theorem sc__law_of : FnScope n__law_of ["_law_bag_here", "_law_some"] (defScope s__law_of) := ⟨rfl, rfl, rfl, by decide +kernel, rfl, by decide +kernel, by decide +kernel⟩
abbrev s__law_same : Stmt := top 9
abbrev n__law_same : List Str := ["_law_found", "_law_due", "_law_one", "_law_two"]
theorem sc__law_same : FnScope n__law_same ["_law_found", "_law_due"] (defScope s__law_same) := ⟨rfl, rfl, rfl, by decide +kernel, rfl, by decide +kernel, by decide +kernel⟩
abbrev s_are_bytes : Stmt := top 3
abbrev n_are_bytes : List Str := ["value", "most", "item"]
theorem sc_are_bytes : FnScope n_are_bytes ["value", "most"] (defScope s_are_bytes) := ⟨rfl, rfl, rfl, by decide +kernel, rfl, by decide +kernel, by decide +kernel⟩
abbrev s_is_event : Stmt := top 5
abbrev n_is_event : List Str := ["value"]
theorem sc_is_event : FnScope n_is_event ["value"] (defScope s_is_event) := ⟨rfl, rfl, rfl, by decide +kernel, rfl, by decide +kernel, by decide +kernel⟩
abbrev s_law : Stmt := top 11
abbrev n_law : List Str := ["_law_script", "_law_bag_here", "_law_turn", "_law_many", "_law_free", "_law_byte", "_law_size", "_law_found", "_law_at", "_law_odd", "_law_bent", "_law_wrong", "_law_one", "_law_k"]
theorem sc_law : FnScope n_law ["_law_script"] (defScope s_law) := ⟨rfl, rfl, rfl, by decide +kernel, rfl, by decide +kernel, by decide +kernel⟩

structure Tx (K : PySem.W.Frag) (mg : Str → Option Value) where
  f_is_number : Addr
  fd_is_number : FuncData
  F_is_number : Fun K "is_number" "is_number" s_is_number f_is_number fd_is_number
  m_is_number : mg "is_number" = some (.ref f_is_number)
  b_is_number : Binds K fd_is_number ["value", "least", "most"] []
  f_is_byte : Addr
  fd_is_byte : FuncData
  F_is_byte : Fun K "is_byte" "is_byte" s_is_byte f_is_byte fd_is_byte
  m_is_byte : mg "is_byte" = some (.ref f_is_byte)
  b_is_byte : Binds K fd_is_byte ["value"] []
  f__law_bag : Addr
  fd__law_bag : FuncData
  F__law_bag : Fun K "_law_bag" "_law_bag" s__law_bag f__law_bag fd__law_bag
  m__law_bag : mg "_law_bag" = some (.ref f__law_bag)
  b__law_bag : Binds K fd__law_bag ["_law_script"] []
  f__law_pull : Addr
  fd__law_pull : FuncData
  F__law_pull : Fun K "_law_pull" "_law_pull" s__law_pull f__law_pull fd__law_pull
  m__law_pull : mg "_law_pull" = some (.ref f__law_pull)
  b__law_pull : Binds K fd__law_pull ["_law_bag_here", "_law_many"] []
  f__law_of : Addr
  fd__law_of : FuncData
  F__law_of : Fun K "_law_of" "_law_of" s__law_of f__law_of fd__law_of
  m__law_of : mg "_law_of" = some (.ref f__law_of)
  b__law_of : Binds K fd__law_of ["_law_bag_here", "_law_some"] []
  f__law_same : Addr
  fd__law_same : FuncData
  F__law_same : Fun K "_law_same" "_law_same" s__law_same f__law_same fd__law_same
  m__law_same : mg "_law_same" = some (.ref f__law_same)
  b__law_same : Binds K fd__law_same ["_law_found", "_law_due"] []
  f_are_bytes : Addr
  fd_are_bytes : FuncData
  F_are_bytes : Fun K "are_bytes" "are_bytes" s_are_bytes f_are_bytes fd_are_bytes
  m_are_bytes : mg "are_bytes" = some (.ref f_are_bytes)
  b_are_bytes : Binds K fd_are_bytes ["value", "most"] []
  f_is_event : Addr
  fd_is_event : FuncData
  F_is_event : Fun K "is_event" "is_event" s_is_event f_is_event fd_is_event
  m_is_event : mg "is_event" = some (.ref f_is_event)
  b_is_event : Binds K fd_is_event ["value"] []
  f_law : Addr
  fd_law : FuncData
  F_law : Fun K "law" "law" s_law f_law fd_law
  m_law : mg "law" = some (.ref f_law)
  b_law : Binds K fd_law ["_law_script"] []
  n_all : mg "all" = none
  n_bool : mg "bool" = none
  n_dict : mg "dict" = none
  n_int : mg "int" = none
  n_isinstance : mg "isinstance" = none
  n_len : mg "len" = none
  n_list : mg "list" = none
  n_range : mg "range" = none
  n_str : mg "str" = none
  n_tuple : mg "tuple" = none
  n_zip : mg "zip" = none
  kb_is_event_0_value : KB K fd_is_event ["value"] 0 ["value"] [0]

theorem ib_int_dict : isiB "int" "dict" = false := by decide
theorem ib_int_list : isiB "int" "list" = false := by decide
theorem ib_int_tuple : isiB "int" "tuple" = false := by decide
theorem ib_int_int : isiB "int" "int" = true := by decide
theorem ib_int_bool : isiB "int" "bool" = false := by decide
theorem ib_int_str : isiB "int" "str" = false := by decide
theorem ib_str_dict : isiB "str" "dict" = false := by decide
theorem ib_str_list : isiB "str" "list" = false := by decide
theorem ib_str_tuple : isiB "str" "tuple" = false := by decide
theorem ib_str_int : isiB "str" "int" = false := by decide
theorem ib_str_bool : isiB "str" "bool" = false := by decide
theorem ib_str_str : isiB "str" "str" = true := by decide
theorem ib_list_dict : isiB "list" "dict" = false := by decide
theorem ib_list_list : isiB "list" "list" = true := by decide
theorem ib_list_tuple : isiB "list" "tuple" = false := by decide
theorem ib_list_int : isiB "list" "int" = false := by decide
theorem ib_list_bool : isiB "list" "bool" = false := by decide
theorem ib_list_str : isiB "list" "str" = false := by decide
theorem ib_tuple_dict : isiB "tuple" "dict" = false := by decide
theorem ib_tuple_list : isiB "tuple" "list" = false := by decide
theorem ib_tuple_tuple : isiB "tuple" "tuple" = true := by decide
theorem ib_tuple_int : isiB "tuple" "int" = false := by decide
theorem ib_tuple_bool : isiB "tuple" "bool" = false := by decide
theorem ib_tuple_str : isiB "tuple" "str" = false := by decide
theorem ib_NoneType_dict : isiB "NoneType" "dict" = false := by decide
theorem ib_NoneType_list : isiB "NoneType" "list" = false := by decide
theorem ib_NoneType_tuple : isiB "NoneType" "tuple" = false := by decide
theorem ib_NoneType_int : isiB "NoneType" "int" = false := by decide
theorem ib_NoneType_bool : isiB "NoneType" "bool" = false := by decide
theorem ib_NoneType_str : isiB "NoneType" "str" = false := by decide
theorem ib_bool_dict : isiB "bool" "dict" = false := by decide
theorem ib_bool_list : isiB "bool" "list" = false := by decide
theorem ib_bool_tuple : isiB "bool" "tuple" = false := by decide
theorem ib_bool_int : isiB "bool" "int" = true := by decide
theorem ib_bool_bool : isiB "bool" "bool" = true := by decide
theorem ib_bool_str : isiB "bool" "str" = false := by decide
theorem ib_dict_dict : isiB "dict" "dict" = true := by decide
theorem ib_dict_list : isiB "dict" "list" = false := by decide
theorem ib_dict_tuple : isiB "dict" "tuple" = false := by decide
theorem ib_dict_int : isiB "dict" "int" = false := by decide
theorem ib_dict_bool : isiB "dict" "bool" = false := by decide
theorem ib_dict_str : isiB "dict" "str" = false := by decide
theorem tn_dict : tyNames.contains "dict" = true := by decide
theorem tn_list : tyNames.contains "list" = true := by decide
theorem tn_tuple : tyNames.contains "tuple" = true := by decide
theorem tn_int : tyNames.contains "int" = true := by decide
theorem tn_bool : tyNames.contains "bool" = true := by decide
theorem tn_str : tyNames.contains "str" = true := by decide
theorem ex_ty2 {a b : String} {p : List String → Prop} : (∃ x, [D.ty a, D.ty b] = List.map D.ty x ∧ p x) ↔ p [a, b] := ⟨fun ⟨x, h, q⟩ => by
  match x, h with
  | [u, v], h => cases h; exact q, fun h => ⟨[a, b], rfl, h⟩⟩
theorem ln2 : (2 ≤ sizeLine) = True := eq_true (by decide)
theorem ln0 : (0 ≤ sizeLine) = True := eq_true (by decide)
theorem ln6 : (6 ≤ sizeLine) = True := eq_true (by decide)
theorem ln7 : (7 ≤ sizeLine) = True := eq_true (by decide)
theorem ln8 : (8 ≤ sizeLine) = True := eq_true (by decide)
theorem ln9 : (9 ≤ sizeLine) = True := eq_true (by decide)
theorem ln10 : (10 ≤ sizeLine) = True := eq_true (by decide)
theorem ln11 : (11 ≤ sizeLine) = True := eq_true (by decide)
theorem ln12 : (12 ≤ sizeLine) = True := eq_true (by decide)
theorem ln13 : (13 ≤ sizeLine) = True := eq_true (by decide)
theorem ln14 : (14 ≤ sizeLine) = True := eq_true (by decide)
theorem ln15 : (15 ≤ sizeLine) = True := eq_true (by decide)
theorem ln16 : (16 ≤ sizeLine) = True := eq_true (by decide)
theorem ln1 : (1 ≤ sizeLine) = True := eq_true (by decide)
theorem ln3 : (3 ≤ sizeLine) = True := eq_true (by decide)
theorem ln4 : (4 ≤ sizeLine) = True := eq_true (by decide)
theorem ln5 : (5 ≤ sizeLine) = True := eq_true (by decide)
theorem ex_pair {α β : Type} {a : α} {b : β} {p : α → β → Prop} : (∃ v w, (a = v ∧ b = w) ∧ p v w) ↔ p a b := ⟨fun ⟨_, _, ⟨rfl, rfl⟩, h⟩ => h, fun h => ⟨_, _, ⟨rfl, rfl⟩, h⟩⟩
local macro_rules | `(tactic| walk_at "D") => `(tactic| simp only [dSeq, dAsg, dName, dIfS, dTest, dRet, dRetF, dRetN, dDrop, dNext, dBreak, dCont, dNever, dPar, dPar3, dAug, dSub, dFor, dOp, dVar, dC, dCall, dNil, dCons, dTup, dLst, dLstM, dAndV, dOrV, dNotV, dAnd, dOr, dNot, dIf, dChain, dSl, dNoPart, dPart, dCB, dUn,
  dM1, oRep, oAbs, oMax, oMin, dIR1, dIR2, dIL, dIT, dIS, dIZ, dIE, dLc, dCallK, dTupG, dgNil, dgCons, dYes, oI, CT, oIsN, oNotN, isNonD_non, isNonD_bl, isNonD_int, isNonD_str, isNonD_lst, isNonD_tup, isNonD_ref, oLen, oInt, oList, oListM, oTup, oAll, oAny, oSum, oIsi, oSet, oAdd, oIx, oSl, oRev, oInB, oMul, oNeg, oEq, oNe, asL_lst, asS_lst, asS_tup, tyN_non, tyN_bl, tyN_int, tyN_str, tyN_lst, tyN_tup, tyN_dct,
  unref_non, unref_bl, unref_int, unref_str, unref_lst, unref_tup, dEqv_int, dEqv_str, dEqv_bl, dEqv_non, dEqv_non_int, dEqv_int_non, dEqv_non_str, dEqv_str_non, dEqv_int_str, dEqv_str_int, dDep_int_l, dDep_str_l, dDep_non_l, dDep_bl_l, dDep_int_r, dDep_str_r, dDep_non_r, dDep_bl_r, pyOk, pyOks, wipeD, frz, pick,
  ib_int_dict, ib_int_list, ib_int_tuple, ib_int_int, ib_int_bool, ib_int_str, ib_str_dict, ib_str_list, ib_str_tuple, ib_str_int, ib_str_bool, ib_str_str, ib_list_dict, ib_list_list, ib_list_tuple, ib_list_int, ib_list_bool, ib_list_str, ib_tuple_dict, ib_tuple_list, ib_tuple_tuple, ib_tuple_int, ib_tuple_bool, ib_tuple_str, ib_NoneType_dict, ib_NoneType_list, ib_NoneType_tuple, ib_NoneType_int, ib_NoneType_bool, ib_NoneType_str, ib_bool_dict, ib_bool_list, ib_bool_tuple, ib_bool_int, ib_bool_bool, ib_bool_str, ib_dict_dict, ib_dict_list, ib_dict_tuple, ib_dict_int, ib_dict_bool, ib_dict_str, tn_dict, tn_list, tn_tuple, tn_int, tn_bool, tn_str, ex_ty2, ex_pair, ln0, ln6, ln7, ln8, ln9, ln10, ln11, ln12, ln13, ln14, ln15, ln16, ln1, ln2, ln3, ln4, ln5, List.all_cons, List.all_nil, List.any_cons, List.any_nil, Bool.or_true, Bool.true_or, Bool.or_false, Bool.false_or, dstart, List.map_cons, List.map_nil, List.cons_append, List.nil_append, List.append_nil, List.replicate_succ, List.replicate_zero, List.length_cons, List.length_nil, List.getElem?_cons_zero, List.getElem?_cons_succ, Option.some.injEq, exists_eq_left', exists_eq_left, exists_and_left, List.set_cons_zero, List.set_cons_succ, M.lst.injEq, D.int.injEq, D.bl.injEq, D.str.injEq, D.lst.injEq, D.tup.injEq, D.ref.injEq,
  decide_true, decide_false, and_true, true_and, if_true, ite_true, Bool.false_eq_true, if_false, ite_false, List.filterMap_cons, List.filterMap_nil, List.cons.injEq, Bool.and_true, Bool.true_and, Bool.and_self, Bool.false_and, Bool.not_true, Bool.not_false, Bool.false_bne, Bool.true_bne, Bool.bne_false, Bool.bne_true, Bool.xor_false, Bool.false_xor, Bool.true_xor, asL_rf, asS_rf, lstM_lst, eup_same, atI_0, atI_1, atI_2, atI_3, atI_4, atI_5, atI_6, atI_7, atI_8, atI_9, atI_neg1, ixN_0, ixN_1, ixN_2, ixN_3, ixN_4, ixN_5, ixN_6, ixN_7, Nat.reduceLT, Nat.reduceAdd, Nat.reduceSub, Nat.lt_add_one, Nat.zero_lt_succ, List.length_map])
local macro_rules | `(tactic| walk_at "D*") => `(tactic| simp only [*, dSeq, dAsg, dName, dIfS, dTest, dRet, dRetF, dRetN, dDrop, dNext, dBreak, dCont, dNever, dPar, dPar3, dAug, dSub, dFor, dOp, dVar, dC, dCall, dNil, dCons, dTup, dLst, dLstM, dAndV, dOrV, dNotV, dAnd, dOr, dNot, dIf, dChain, dSl, dNoPart, dPart, dCB, dUn,
  dM1, oRep, oAbs, oMax, oMin, dIR1, dIR2, dIL, dIT, dIS, dIZ, dIE, dLc, dCallK, dTupG, dgNil, dgCons, dYes, oI, CT, oIsN, oNotN, isNonD_non, isNonD_bl, isNonD_int, isNonD_str, isNonD_lst, isNonD_tup, isNonD_ref, oLen, oInt, oList, oListM, oTup, oAll, oAny, oSum, oIsi, oSet, oAdd, oIx, oSl, oRev, oInB, oMul, oNeg, oEq, oNe, asL_lst, asS_lst, asS_tup, tyN_non, tyN_bl, tyN_int, tyN_str, tyN_lst, tyN_tup, tyN_dct,
  unref_non, unref_bl, unref_int, unref_str, unref_lst, unref_tup, dEqv_int, dEqv_str, dEqv_bl, dEqv_non, dEqv_non_int, dEqv_int_non, dEqv_non_str, dEqv_str_non, dEqv_int_str, dEqv_str_int, dDep_int_l, dDep_str_l, dDep_non_l, dDep_bl_l, dDep_int_r, dDep_str_r, dDep_non_r, dDep_bl_r, pyOk, pyOks, wipeD, frz, pick,
  ib_int_dict, ib_int_list, ib_int_tuple, ib_int_int, ib_int_bool, ib_int_str, ib_str_dict, ib_str_list, ib_str_tuple, ib_str_int, ib_str_bool, ib_str_str, ib_list_dict, ib_list_list, ib_list_tuple, ib_list_int, ib_list_bool, ib_list_str, ib_tuple_dict, ib_tuple_list, ib_tuple_tuple, ib_tuple_int, ib_tuple_bool, ib_tuple_str, ib_NoneType_dict, ib_NoneType_list, ib_NoneType_tuple, ib_NoneType_int, ib_NoneType_bool, ib_NoneType_str, ib_bool_dict, ib_bool_list, ib_bool_tuple, ib_bool_int, ib_bool_bool, ib_bool_str, ib_dict_dict, ib_dict_list, ib_dict_tuple, ib_dict_int, ib_dict_bool, ib_dict_str, tn_dict, tn_list, tn_tuple, tn_int, tn_bool, tn_str, ex_ty2, ex_pair, ln0, ln6, ln7, ln8, ln9, ln10, ln11, ln12, ln13, ln14, ln15, ln16, ln1, ln2, ln3, ln4, ln5, List.all_cons, List.all_nil, List.any_cons, List.any_nil, Bool.or_true, Bool.true_or, Bool.or_false, Bool.false_or, dstart, List.map_cons, List.map_nil, List.cons_append, List.nil_append, List.append_nil, List.replicate_succ, List.replicate_zero, List.length_cons, List.length_nil, List.getElem?_cons_zero, List.getElem?_cons_succ, Option.some.injEq, exists_eq_left', exists_eq_left, exists_and_left, List.set_cons_zero, List.set_cons_succ, M.lst.injEq, D.int.injEq, D.bl.injEq, D.str.injEq, D.lst.injEq, D.tup.injEq, D.ref.injEq,
  decide_true, decide_false, and_true, true_and, if_true, ite_true, Bool.false_eq_true, if_false, ite_false, List.filterMap_cons, List.filterMap_nil, List.cons.injEq, Bool.and_true, Bool.true_and, Bool.and_self, Bool.false_and, Bool.not_true, Bool.not_false, Bool.false_bne, Bool.true_bne, Bool.bne_false, Bool.bne_true, Bool.xor_false, Bool.false_xor, Bool.true_xor, asL_rf, asS_rf, lstM_lst, eup_same, atI_0, atI_1, atI_2, atI_3, atI_4, atI_5, atI_6, atI_7, atI_8, atI_9, atI_neg1, ixN_0, ixN_1, ixN_2, ixN_3, ixN_4, ixN_5, ixN_6, ixN_7, Nat.reduceLT, Nat.reduceAdd, Nat.reduceSub, Nat.lt_add_one, Nat.zero_lt_succ, List.length_map])

/-! ### the law's own draws -/
def Bag (η : Eta) (b : Addr) : Prop := ∃ (cs : List Int) (i r m n : Int), η b = some (.lst [.lst (cs.map D.int), .int i, .int r, .int m, .int n]) ∧ cs.length ≤ 63 ∧ 0 ≤ i ∧ 0 ≤ r ∧ 0 ≤ m ∧ m < 2147483489
/-- the bag at b was drawn from, nothing else changed -/
def Drawn (b : Addr) (η η' : Eta) : Prop := Bag η' b ∧ ∀ a, a ≠ b → η' a = η a
theorem Drawn.refl {b : Addr} {η : Eta} (h : Bag η b) : Drawn b η η := ⟨h, fun _ _ => rfl⟩
theorem Drawn.trans {b : Addr} {η η1 η2 : Eta} (h1 : Drawn b η η1) (h2 : Drawn b η1 η2) : Drawn b η η2 := ⟨h2.1, fun a n => (h2.2 a n).trans (h1.2 a n)⟩
def c__law_bag : Ct := fun ds η Φ => ∃ ns : List Int, ds = [.klst (ns.map D.int)] ∧ ns.length ≤ 63 ∧ ∀ b η', η b = none → Drawn b η η' → Φ (.ref b) η'
def c__law_pull : Ct := fun ds η Φ => ∃ (b : Addr) (n : Int), ds = [.ref b, .int n] ∧ Bag η b ∧ 0 < n ∧ n.natAbs.log2 < 9000 ∧ ∀ (r : Int) (η' : Eta), 0 ≤ r → r < n → Drawn b η η' → Φ (.int r) η'
def items : D → Option (List D)
  | .lst xs => some xs
  | .tup xs => some xs
  | .str x => some (x.cps.toList.map fun c => D.str ⟨#[c]⟩)
  | _ => none
def c__law_of : Ct := fun ds η Φ => ∃ (b : Addr) (x : D) (xs : List D), ds = [.ref b, x] ∧ Bag η b ∧ items x = some xs ∧ 0 < xs.length ∧ xs.length < 1000000 ∧ ∀ (y : D) (η' : Eta), y ∈ xs → Drawn b η η' → Φ y η'
/-- plain data, nested less than n deep, no list longer than a line -/
def sameOk : Nat → D → Bool
  | n + 1, .lst xs => decide (xs.length ≤ 16777216) && xs.all (sameOk n)
  | n + 1, .tup xs => decide (xs.length ≤ 16777216) && xs.all (sameOk n)
  | _ + 1, .non => true
  | _ + 1, .bl _ => true
  | _ + 1, .int _ => true
  | _ + 1, .str _ => true
  | _, _ => false
def c__law_same (n : Nat) : Ct := fun ds η Φ => ∃ d, ds = [d, d] ∧ sameOk n d = true ∧ Φ (.bl true) η
theorem Bag.put {η : Eta} {b : Addr} {cs : List Int} {i r m n : Int} (h : cs.length ≤ 63) (h1 : 0 ≤ i) (h2 : 0 ≤ r) (h3 : 0 ≤ m) (h4 : m < 2147483489) : Drawn b η (eup η b (.lst [.lst (cs.map D.int), .int i, .int r, .int m, .int n])) :=
  ⟨⟨cs, i, r, m, n, eup_same, h, h1, h2, h3, h4⟩, fun a ne => eup_ne ne⟩
theorem pow18 : ((10 : Int) ^ (18 : Int).toNat) = 1000000000000000000 := by decide
theorem cpow18 : CPow 10 18 := ⟨by decide, by decide, by decide⟩
theorem mulR {i j : Int} (h1 : -(2 ^ 64) < j) (h2 : j < 2 ^ 64) : CMulU i j := .inl (.inr ⟨h1, h2⟩)
theorem divW {i j : Int} (h1 : 0 < j) (h2 : j.natAbs.log2 < 9000) : CDivW i j := ⟨h1, h2⟩
theorem log2_small {n : Int} (h : n.natAbs < 2 ^ 60) : n.natAbs.log2 < 9000 := by
  by_cases h0 : n.natAbs = 0
  · rw [h0]; decide
  · exact Nat.lt_of_lt_of_le ((Nat.log2_lt h0).mpr h) (by decide)

theorem atI_in {α : Type} {xs : List α} {i : Int} (h0 : 0 ≤ i) (h1 : i < xs.length) : ∃ x, atI xs i = some x ∧ x ∈ xs := by
  obtain ⟨n, rfl⟩ := Int.eq_ofNat_of_zero_le h0
  have hn : n < xs.length := by omega
  refine ⟨xs[n], ?_, List.getElem_mem hn⟩
  have : ixN xs.length (n : Int) = some n := by simp [ixN, hn]
  simp [L2.atI, this, hn]
theorem iota_mem {lo : Int} {n : Nat} {x : D} (h : x ∈ iota lo n) : ∃ k : Nat, k < n ∧ x = .int (lo + k) := by
  obtain ⟨k, hk, rfl⟩ := List.mem_map.mp h
  exact ⟨k, List.mem_range.mp hk, rfl⟩
theorem pairs_self : ∀ xs : List D, pairs xs xs = xs.map fun x => .tup [x, x]
  | [] => rfl
  | x :: xs => by rw [pairs, pairs_self xs]; rfl
theorem tyN_rf {η : Eta} {p : Addr} {t : String} (h : tyN η (.ref p) = some t) : t = "list" ∨ t = "dict" := by
  unfold tyN at h
  dsimp only at h
  split at h <;> first | exact .inl (Option.some.inj h).symm | exact .inr (Option.some.inj h).symm | cases h
theorem join_empty : ∀ ys : List Str, (Str.join "" ys).cps.toList = (ys.map fun y => y.cps.toList).flatten
  | [] => rfl
  | [x] => by simp [Str.join]
  | x :: y :: r => by
    rw [join_cons_cons]
    show ((x.cps ++ #[]) ++ (Str.join "" (y :: r)).cps).toList = _
    rw [Array.toList_append, Array.toList_append, join_empty (y :: r)]
    simp
theorem len_toList (z : Str) : z.cps.toList.length = z.length := by simp [Str.length]
theorem sameOk_bls : ∀ {bs : List Bool}, bs.length ≤ 16777216 → sameOk 4 (.lst (bs.map D.bl)) = true := fun {bs} h => by
  simp only [sameOk, Bool.and_eq_true, decide_eq_true_eq, List.all_eq_true, List.length_map]
  refine ⟨h, fun x hx => ?_⟩
  obtain ⟨b, -, rfl⟩ := List.mem_map.mp hx
  rfl
theorem same_go {A B : D} {η : Eta} {F G : Eta → Prop} (hA : sameOk 4 A = true) (e : B = A) (h : G η) : c__law_same 4 [A, B] η (fun d η1 => ∃ k, d = D.bl k ∧ if (!k) = true then F η1 else G η1) := ⟨A, by rw [e], hA, true, rfl, h⟩
theorem pyOks_bls : ∀ bs : List Bool, pyOks (bs.map D.bl) = true
  | [] => rfl
  | b :: bs => by show (true && pyOks (bs.map D.bl)) = true; rw [pyOks_bls bs]; rfl
theorem depth_bls : ∀ bs : List Bool, PyData.depthAll (toPys (bs.map D.bl)) = 0
  | [] => by simp [toPys, PyData.depthAll]
  | b :: bs => by simp [toPys, toPy, PyData.depthAll, PyData.depth, depth_bls bs]
theorem dDep_bls {bs : List Bool} {y : D} : dDep (.lst (bs.map D.bl)) y := by
  unfold dDep
  have : (toPy (.lst (bs.map D.bl))).depth = 1 := by simp [toPy, PyData.depth, depth_bls]
  rw [this]; omega
theorem dEqv_bls : ∀ bs : List Bool, dEqvs (bs.map D.bl) (bs.map D.bl) = true
  | [] => rfl
  | b :: bs => by rw [List.map_cons, dEqvs_cons, dEqv_bls bs, dEqv_bl]; simp
theorem rep_bls (b : Bool) : ∀ n : Nat, (List.replicate n [D.bl b]).flatten = (List.replicate n b).map D.bl
  | 0 => rfl
  | n + 1 => by rw [List.replicate_succ, List.flatten_cons, rep_bls b n]; rfl

section
variable {P : Program} {w : World} {K : PySem.W.Frag} {mg : Str → Option Value} {base : Heap}
def isNum : D → Int → Int → Bool
  | .int i, a, b => decide (a ≤ i) && decide (i ≤ b)
  | _, _, _ => false
def c_is_number : Ct := fun ds η Φ => ∃ x a b, ds = [x, .int a, .int b] ∧ (tyN η x).isSome = true ∧ Φ (.bl (isNum x a b)) η
def c_is_byte : Ct := fun ds η Φ => ∃ x, ds = [x] ∧ (tyN η x).isSome = true ∧ Φ (.bl (isNum x 0 255)) η
theorem ok_is_number  (T : Tx K mg) : FnOk P w K mg base CX0 1 T.f_is_number T.fd_is_number ["value", "least", "most"] (sp0 K c_is_number) := by
  refine fn0 T.F_is_number sc_is_number (fun ds η Φ h => by obtain ⟨_, _, _, rfl, _⟩ := h; rfl) fun cdv A outer s H E ds η Φ hr hc => ?_
  have hu := hr.units
  refine ⟨_, _, (pdss_one (pds_ret (pd_and (pd_callB (kl_isi (K := K) (by rfl)) (by rfl) T.n_isinstance (by decide +kernel) (pda_cons (pd_var 0) (pda_cons (pd_type (T := "int") (by rfl) T.n_int (by decide +kernel)) pda_nil))) (pd_and (pd_not (pd_callB (kl_isi (K := K) (by rfl)) (by rfl) T.n_isinstance (by decide +kernel) (pda_cons (pd_var 0) (pda_cons (pd_type (T := "bool") (by rfl) T.n_bool (by decide +kernel)) pda_nil)))) (pd_one (pd_chain od_le od_le (pd_var 1) (pd_var 0) (pd_var 2))))))), ?_⟩
  obtain ⟨x, a, b, rfl, ht, hΦ⟩ := hc
  walk_at "D"
  cases h : tyN η x with
  | none => rw [h] at ht; cases ht
  | some t =>
    refine ⟨t, rfl, ?_⟩
    cases x with
    | int i =>
      cases h
      simp [isiB, isNum] at hΦ ⊢
      by_cases h1 : a ≤ i
      · simpa [h1] using hΦ
      · simpa [h1] using hΦ
    | bl c => cases h; simpa [isiB, isNum] using hΦ
    | non => cases h; simpa [isiB, isNum] using hΦ
    | str c => cases h; simpa [isiB, isNum] using hΦ
    | lst c => cases h; simpa [isiB, isNum] using hΦ
    | tup c => cases h; simpa [isiB, isNum] using hΦ
    | dct c e => cases h; simpa [isiB, isNum] using hΦ
    | ref p =>
      have : t = "list" ∨ t = "dict" := by
        unfold tyN at h
        dsimp only at h
        split at h <;> first | exact .inl (Option.some.inj h).symm | exact .inr (Option.some.inj h).symm | cases h
      rcases this with rfl | rfl <;> simpa [isiB, isNum] using hΦ
    | _ => cases h
theorem ok_is_byte  (T : Tx K mg) (G_is_number : FnOk P w K mg base CX0 1 T.f_is_number T.fd_is_number ["value", "least", "most"] (sp0 K c_is_number)) : FnOk P w K mg base CX0 2 T.f_is_byte T.fd_is_byte ["value"] (sp0 K c_is_byte) := by
  refine fn0 T.F_is_byte sc_is_byte (fun ds η Φ h => by obtain ⟨_, rfl, _⟩ := h; rfl) fun cdv A outer s H E ds η Φ hr hc => ?_
  have hu := hr.units
  refine ⟨_, _, (pdss_one (pds_ret (kd_call (by exact ⟨rfl, rfl, rfl, rfl, rfl⟩) G_is_number (hr.mono (by omega)) (by rfl) T.m_is_number T.F_is_number.kp T.b_is_number .nil (fun _ _ _ => .nil) (pda_cons (pd_var 0) (pda_cons pd_int (pda_cons pd_int pda_nil)))))), ?_⟩
  obtain ⟨x, rfl, ht, hΦ⟩ := hc
  walk_at "D"
  exact ⟨x, 0, 255, rfl, ht, hΦ⟩

theorem ok__law_bag  (T : Tx K mg) : FnOk P w K mg base CX0 1 T.f__law_bag T.fd__law_bag ["_law_script"] (sp0 K c__law_bag) := by
  refine fn0 T.F__law_bag sc__law_bag (fun ds η Φ h => by obtain ⟨_, rfl, _⟩ := h; rfl) fun cdv A outer s H E ds η Φ hr hc => ?_
  have hu := hr.units
  refine ⟨_, _, (pdss_cons (pds_set (i := 1) sc__law_bag.nd rfl (by first | exact Or.inl rfl | exact Or.inr rfl) pd_int)
      (pdss_cons (pds_for PassesOwn.never rfl (kdi_list (K := K) (by rfl) (pd_slice (kd_sl (K := K) (by rfl)) (pd_var 0) pdo_none (pdo_some pd_int))) (pdg_name (i := 2) sc__law_bag.nd rfl (by first | exact Or.inl rfl | exact Or.inr rfl))
        (pdss_one (pds_set (i := 1) sc__law_bag.nd rfl (by first | exact Or.inl rfl | exact Or.inr rfl) (pd_op od_mod (pd_callTy cl_int (by rfl) T.n_int (by decide +kernel) (pda_cons (pd_op (kd_add (K := K) (by rfl)) (pd_op (kd_add (K := K) (by rfl)) (pd_op od_mul (pd_var 1) pd_int) (pd_op od_mod (pd_callTy cl_int (by rfl) T.n_int (by decide +kernel) (pda_cons (pd_var 2) pda_nil)) pd_int)) pd_int) pda_nil)) pd_int))))
      (pdss_one (pds_ret (pd_lstM (pda_cons (pd_callTy (kl_list (K := K) (by rfl)) (by rfl) T.n_list (by decide +kernel) (pda_cons (pd_slice (kd_sl (K := K) (by rfl)) (pd_var 0) pdo_none (pdo_some pd_int)) pda_nil)) (pda_cons pd_int (pda_cons pd_int (pda_cons (pd_var 1) (pda_cons pd_int pda_nil)))))))))), ?_⟩
  obtain ⟨ns, rfl, hl, hΦ⟩ := hc
  walk_at "D"
  have hc : DL.cutD (ns.map D.int) none (some 63) = ns.map D.int := by
    have e1 : HT.sIx (ns.map D.int).length (ns.map D.int).length (some 63) = ns.length := by
      rw [List.length_map]
      exact (HT.sIx_nat ns.length ns.length 63).trans (Nat.min_eq_right hl)
    unfold DL.cutD
    rw [e1]
    show List.take (ns.length - 0) (List.drop 0 (ns.map D.int)) = _
    rw [List.drop_zero, Nat.sub_zero, List.take_of_length_le (by rw [List.length_map]; exact Nat.le_refl _)]
  rw [hc]
  refine dForL_by (items := ns.map D.int) (fun δ η' => η = η' ∧ ∃ (m : Int) (v : Option D), 0 ≤ m ∧ m < 2147483489 ∧ δ = [some (.klst (ns.map .int)), some (.int m), v]) ?_ ?_ _ (fun _ h => h) _ _ ⟨rfl, 10048, none, by decide, by decide, rfl⟩
  · rintro δ η' ⟨rfl, m, v, m0, m1, rfl⟩
    refine ⟨trivial, ?_⟩
    walk_at "D"
    rw [hc]
    exact fun p hp => hΦ p _ hp (Bag.put hl (by decide) (by decide) m0 m1)
  · rintro x hx δ η' N ⟨rfl, m, v, m0, m1, rfl⟩ hN
    obtain ⟨c, -, rfl⟩ := List.mem_map.mp hx
    refine ⟨trivial, ?_⟩
    walk_at "D"
    exact ⟨mulR (by decide) (by decide), by decide, by decide, hN _ _ ⟨rfl, _, _, Int.emod_nonneg _ (by decide), Int.emod_lt_of_pos _ (by decide), rfl⟩⟩
theorem ok__law_pull  (T : Tx K mg) : FnOk P w K mg base CX0 1 T.f__law_pull T.fd__law_pull ["_law_bag_here", "_law_many"] (sp0 K c__law_pull) := by
  refine fn0 T.F__law_pull sc__law_pull (fun ds η Φ h => by obtain ⟨_, _, rfl, _⟩ := h; rfl) fun cdv A outer s H E ds η Φ hr hc => ?_
  have hu := hr.units
  refine ⟨_, _, (pdss_cons (pds_asg (pd_op (kd_add (K := K) (by rfl)) (pd_ix (kd_ix (K := K) (by rfl)) (pd_var 0) pd_int (fun _ _ => rfl)) pd_int) (pdg_sub (E := E0) (pd_var 0) pd_int std))
      (pdss_cons (pds_if (pdt_w (pdw_and (pdt_cmp (kd_eq (K := K) (by rfl) hu) (pd_ix (kd_ix (K := K) (by rfl)) (pd_var 0) pd_int (fun _ _ => rfl)) pd_int (nomark _)) (pdw_and1 (pdt_cmp od_lt (pd_ix (kd_ix (K := K) (by rfl)) (pd_var 0) pd_int (fun _ _ => rfl)) (pd_callB (kl_len (K := K) (by rfl)) (by rfl) T.n_len (by decide +kernel) (pda_cons (pd_ix (kd_ix (K := K) (by rfl)) (pd_var 0) pd_int (fun _ _ => rfl)) pda_nil)) (nomark _)))))
        (pdss_cons (pds_set (i := 2) sc__law_pull.nd rfl (by first | exact Or.inl rfl | exact Or.inr rfl) (pd_ix (kd_ix (K := K) (by rfl)) (pd_ix (kd_ix (K := K) (by rfl)) (pd_var 0) pd_int (fun _ _ => rfl)) (pd_ix (kd_ix (K := K) (by rfl)) (pd_var 0) pd_int (fun _ _ => rfl)) (fun _ _ => rfl)))
        (pdss_cons (pds_asg (pd_op (kd_add (K := K) (by rfl)) (pd_ix (kd_ix (K := K) (by rfl)) (pd_var 0) pd_int (fun _ _ => rfl)) pd_int) (pdg_sub (E := E0) (pd_var 0) pd_int std))
        (pdss_one (pds_if (pdt_cmp od_ge (pd_var 2) (pd_op od_pow pd_int pd_int) (nomark _))
          (pdss_one (pds_asg (pd_var 2) (pdg_sub (E := E0) (pd_var 0) pd_int std)))
          (pdss_one (pds_asg (pd_op od_mod (pd_callTy cl_int (by rfl) T.n_int (by decide +kernel) (pda_cons (pd_op (kd_add (K := K) (by rfl)) (pd_op (kd_add (K := K) (by rfl)) (pd_op od_mul (pd_ix (kd_ix (K := K) (by rfl)) (pd_var 0) pd_int (fun _ _ => rfl)) pd_int) (pd_op od_mul (pd_op od_mod (pd_callTy cl_int (by rfl) T.n_int (by decide +kernel) (pda_cons (pd_var 2) pda_nil)) pd_int) pd_int)) pd_int) pda_nil)) pd_int) (pdg_sub (E := E0) (pd_var 0) pd_int std)))))))
        pdss_nil)
      (pdss_cons (pds_if (pdt_cmp od_gt (pd_ix (kd_ix (K := K) (by rfl)) (pd_var 0) pd_int (fun _ _ => rfl)) pd_int (nomark _))
        (pdss_cons (pds_set (i := 3) sc__law_pull.nd rfl (by first | exact Or.inl rfl | exact Or.inr rfl) (pd_op od_mod (pd_callTy cl_int (by rfl) T.n_int (by decide +kernel) (pda_cons (pd_ix (kd_ix (K := K) (by rfl)) (pd_var 0) pd_int (fun _ _ => rfl)) pda_nil)) (pd_var 1)))
        (pdss_cons (pds_asg (pd_op od_fdiv (pd_ix (kd_ix (K := K) (by rfl)) (pd_var 0) pd_int (fun _ _ => rfl)) (pd_var 1)) (pdg_sub (E := E0) (pd_var 0) pd_int std))
        (pdss_one (pds_ret (pd_var 3)))))
        pdss_nil)
      (pdss_cons (pds_set (i := 4) sc__law_pull.nd rfl (by first | exact Or.inl rfl | exact Or.inr rfl) (pd_callTy cl_int (by rfl) T.n_int (by decide +kernel) (pda_cons (pd_ix (kd_ix (K := K) (by rfl)) (pd_var 0) pd_int (fun _ _ => rfl)) pda_nil)))
      (pdss_cons (pds_asg (pd_op od_mod (pd_callTy cl_int (by rfl) T.n_int (by decide +kernel) (pda_cons (pd_op (kd_add (K := K) (by rfl)) (pd_op (kd_add (K := K) (by rfl)) (pd_op (kd_add (K := K) (by rfl)) (pd_op od_pow (pd_var 4) pd_int) (pd_op od_mul (pd_var 4) pd_int)) (pd_op od_mul (pd_ix (kd_ix (K := K) (by rfl)) (pd_var 0) pd_int (fun _ _ => rfl)) pd_int)) pd_int) pda_nil)) pd_int) (pdg_sub (E := E0) (pd_var 0) pd_int std))
      (pdss_one (pds_ret (pd_op od_mod (pd_callTy cl_int (by rfl) T.n_int (by decide +kernel) (pda_cons (pd_op (kd_add (K := K) (by rfl)) (pd_op od_fdiv (pd_ix (kd_ix (K := K) (by rfl)) (pd_var 0) pd_int (fun _ _ => rfl)) pd_int) (pd_op od_mul (pd_op od_mod (pd_callTy cl_int (by rfl) T.n_int (by decide +kernel) (pda_cons (pd_ix (kd_ix (K := K) (by rfl)) (pd_var 0) pd_int (fun _ _ => rfl)) pda_nil)) pd_int) pd_int)) pda_nil)) (pd_var 1))))))))), ?_⟩
  obtain ⟨b, n, rfl, ⟨cs, i, r, m, nn, hb, c1, c2, c3, c4, c5⟩, h0, h9, hΦ⟩ := hc
  -- the number of draws
  refine dSeq_by (fun δ' η' => δ' = [some (.ref b), some (.int n), none, none, none] ∧ Drawn b η η') (fun N hN => ?_) ?_
  · walk_at "D"
    simp only [hb]
    walk_at "D"
    exact hN _ _ ⟨rfl, Bag.put c1 c2 c3 c4 c5⟩
  rintro δ' η1 ⟨rfl, ⟨cs1, i1, r1, m1, n1, hb1, d1, d2, d3, d4, d5⟩, fr1⟩
  -- a cell is taken
  refine dSeq_by (fun δ' η' => ∃ v, δ' = [some (.ref b), some (.int n), v, none, none] ∧ Drawn b η η') (fun N hN => ?_) ?_
  · have hD : Drawn b η η1 := ⟨⟨cs1, i1, r1, m1, n1, hb1, d1, d2, d3, d4, d5⟩, fr1⟩
    refine dIfS_by (fun b η' => η1 = η' ∧ (b = true → i1 < (cs1.length : Int))) (fun N2 hN2 => ?_) (fun η' h => ?_) (fun η' h => ?_)
    · walk_at "D"
      simp only [hb1]
      walk_at "D"
      by_cases h : (r1 : Int) = 0
      · simp only [h]
        walk_at "D"
        exact hN2 _ _ ⟨rfl, fun h => by simpa using h⟩
      · simp only [h, decide_false]
        walk_at "D"
        exact hN2 _ _ ⟨rfl, fun h => by cases h⟩
    · obtain ⟨rfl, h⟩ := h
      have h := h rfl
      refine dSeq_by (fun δ' η' => ∃ c, δ' = [some (.ref b), some (.int n), some (.int c), none, none] ∧ η1 = η') (fun N2 hN2 => ?_) ?_
      · walk_at "D"
        simp only [hb1]
        walk_at "D"
        obtain ⟨x, hx, hm⟩ := atI_in (xs := cs1.map D.int) d2 (by simpa using h)
        obtain ⟨c, -, rfl⟩ := List.mem_map.mp hm
        exact ⟨_, hx, hN2 _ _ ⟨c, rfl, rfl⟩⟩
      rintro δ' η' ⟨c, rfl, rfl⟩
      refine dSeq_by (fun δ' η' => δ' = [some (.ref b), some (.int n), some (.int c), none, none] ∧ ∃ i m n, 0 ≤ i ∧ 0 ≤ m ∧ m < 2147483489 ∧ η' b = some (.lst [.lst (cs1.map .int), .int i, .int r1, .int m, .int n]) ∧ Drawn b η η') (fun N2 hN2 => ?_) ?_
      · walk_at "D"
        simp only [hb1]
        walk_at "D"
        exact hN2 _ _ ⟨rfl, _, _, _, by omega, d4, d5, eup_same, hD.trans (Bag.put d1 (by omega) d3 d4 d5)⟩
      rintro δ' η2 ⟨rfl, ⟨i2, m2, n2, d2', d4', d5', hb2, hD2⟩⟩
      walk_at "D"
      simp only [hb2]
      walk_at "D"
      refine ⟨cpow18, ?_⟩
      rw [pow18]
      split
      · rename_i h; exact hN _ _ ⟨_, rfl, hD2.trans (Bag.put d1 d2' (by have := of_decide_eq_true h; omega) d4' d5')⟩
      · exact ⟨mulR (by decide) (by decide), by decide, mulR (by decide) (by decide), by decide, hN _ _ ⟨_, rfl, hD2.trans (Bag.put d1 d2' d3 (Int.emod_nonneg _ (by decide)) (Int.lt_trans (Int.emod_lt_of_pos _ (by decide)) (by decide)))⟩⟩
    · obtain ⟨rfl, -⟩ := h
      exact hN _ _ ⟨_, rfl, hD⟩
  rintro δ' η2 ⟨v, rfl, ⟨cs2, i2, r2, m2, n2, hb2, e1, e2, e3, e4, e5⟩, fr2⟩
  have hD : Drawn b η η2 := ⟨⟨cs2, i2, r2, m2, n2, hb2, e1, e2, e3, e4, e5⟩, fr2⟩
  refine dSeq_by (fun δ' η' => δ' = [some (.ref b), some (.int n), v, none, none] ∧ η2 = η') (fun N hN => ?_) ?_
  · walk_at "D"
    simp only [hb2]
    walk_at "D"
    by_cases h : 0 < r2
    · simp only [h, decide_true]
      walk_at "D"
      refine ⟨h0, divW h0 h9, hΦ _ _ (Int.emod_nonneg _ (by omega)) (Int.emod_lt_of_pos _ h0) (hD.trans (Bag.put e1 e2 (Int.ediv_nonneg (by omega) (by omega)) e4 e5))⟩
    · simp only [h, decide_false]
      walk_at "D"
      exact hN _ _ ⟨rfl, rfl⟩
  rintro δ' η' ⟨rfl, rfl⟩
  refine dSeq_by (fun δ' η' => δ' = [some (.ref b), some (.int n), v, none, some (.int m2)] ∧ η2 = η') (fun N2 hN2 => ?_) ?_
  · walk_at "D"
    simp only [hb2]
    walk_at "D"
    exact hN2 _ _ ⟨rfl, rfl⟩
  rintro δ' η' ⟨rfl, rfl⟩
  refine dSeq_by (fun δ' η' => δ' = [some (.ref b), some (.int n), v, none, some (.int m2)] ∧ ∃ (cs : List Int) (i r m k : Int), η' b = some (.lst [.lst (cs.map .int), .int i, .int r, .int m, .int k]) ∧ Drawn b η η') (fun N2 hN2 => ?_) ?_
  · walk_at "D"
    simp only [hb2]
    walk_at "D"
    refine ⟨⟨by decide, by decide, by omega⟩, mulR (by decide) (by decide), mulR (by decide) (by decide), by decide, ?_⟩
    exact hN2 _ _ ⟨rfl, _, _, _, _, _, eup_same, hD.trans (Bag.put e1 e2 e3 (Int.emod_nonneg _ (by decide)) (Int.lt_trans (Int.emod_lt_of_pos _ (by decide)) (by decide)))⟩
  rintro δ' η3 ⟨rfl, cs3, i3, r3, m3, k3, hb3, hD3⟩
  walk_at "D"
  simp only [hb3]
  walk_at "D"
  exact ⟨divW (by decide) (by decide), by decide, mulR (by decide) (by decide), h0, hΦ _ _ (Int.emod_nonneg _ (by omega)) (Int.emod_lt_of_pos _ h0) hD3⟩
theorem ok__law_of  (T : Tx K mg) (G__law_pull : FnOk P w K mg base CX0 1 T.f__law_pull T.fd__law_pull ["_law_bag_here", "_law_many"] (sp0 K c__law_pull)) : FnOk P w K mg base CX0 2 T.f__law_of T.fd__law_of ["_law_bag_here", "_law_some"] (sp0 K c__law_of) := by
  refine fn0 T.F__law_of sc__law_of (fun ds η Φ h => by obtain ⟨_, _, _, rfl, _⟩ := h; rfl) fun cdv A outer s H E ds η Φ hr hc => ?_
  have hu := hr.units
  refine ⟨_, _, (pdss_one (pds_ret (pd_ix (kd_ix (K := K) (by rfl)) (pd_var 1) (kd_call (by exact ⟨rfl, rfl, rfl, rfl, rfl⟩) G__law_pull (hr.mono (by omega)) (by rfl) T.m__law_pull T.F__law_pull.kp T.b__law_pull .nil (fun _ _ _ => .nil) (pda_cons (pd_var 0) (pda_cons (pd_callB (kl_len (K := K) (by rfl)) (by rfl) T.n_len (by decide +kernel) (pda_cons (pd_var 1) pda_nil)) pda_nil))) (fun _ _ => rfl)))), ?_⟩
  obtain ⟨b, x, xs, rfl, hB, hx, h0, h1, hΦ⟩ := hc
  have hlg : (xs.length : Int).natAbs.log2 < 9000 := log2_small (by omega)
  cases x with
  | lst ys =>
    cases hx
    walk_at "D"
    refine ⟨b, _, rfl, hB, by omega, hlg, fun r η' r0 r1 hD => ?_⟩
    obtain ⟨y, hy, hm⟩ := atI_in (xs := xs) r0 r1
    exact ⟨xs, rfl, y, hy, hΦ y η' hm hD⟩
  | tup ys =>
    cases hx
    walk_at "D"
    refine ⟨b, _, rfl, hB, by omega, hlg, fun r η' r0 r1 hD => ?_⟩
    obtain ⟨y, hy, hm⟩ := atI_in (xs := xs) r0 r1
    exact ⟨xs, rfl, y, hy, hΦ y η' hm hD⟩
  | str z =>
    cases hx
    walk_at "D"
    have hz : (z.cps.toList.map fun c => D.str ⟨#[c]⟩).length = z.length := by simp [Str.length]
    rw [hz] at h0 h1 hlg
    refine ⟨b, _, rfl, hB, by omega, hlg, fun r η' r0 r1 hD => ?_⟩
    obtain ⟨c, hy, hm⟩ := atI_in (xs := z.cps.toList) r0 (by simpa [Str.length] using r1)
    exact ⟨c, hy, hΦ _ η' (List.mem_map.mpr ⟨c, hm, rfl⟩) hD⟩
  | _ => cases hx

theorem step__law_same (n : Nat) (T : Tx K mg) (G__law_same : FnOk P w K mg base CX0 n T.f__law_same T.fd__law_same ["_law_found", "_law_due"] (sp0 K (c__law_same n))) : FnOk P w K mg base CX0 (n + 1) T.f__law_same T.fd__law_same ["_law_found", "_law_due"] (sp0 K (c__law_same (n + 1))) := by
  refine fn0 T.F__law_same sc__law_same (fun ds η Φ h => by obtain ⟨_, rfl, _⟩ := h; rfl) fun cdv A outer s H E ds η Φ hr hc => ?_
  have hu := hr.units
  refine ⟨_, _, (pdss_cons (pds_if (pdt_val (pd_callB (kl_isi (K := K) (by rfl)) (by rfl) T.n_isinstance (by decide +kernel) (pda_cons (pd_var 1) (pda_cons (pd_type (T := "dict") (by rfl) T.n_dict (by decide +kernel)) pda_nil))))
        pdss_never
        pdss_nil)
      (pdss_cons (pds_if (pdt_val (pd_callB (kl_isi (K := K) (by rfl)) (by rfl) T.n_isinstance (by decide +kernel) (pda_cons (pd_var 1) (pda_cons (pd_tup (pda_cons (pd_type (T := "list") (by rfl) T.n_list (by decide +kernel)) (pda_cons (pd_type (T := "tuple") (by rfl) T.n_tuple (by decide +kernel)) pda_nil))) pda_nil))))
        (pdss_cons (pds_if (pdt_w (pdw_or (pdt_cmp (kd_ne (K := K) (by rfl) hu) (pd_callB (kl_isi (K := K) (by rfl)) (by rfl) T.n_isinstance (by decide +kernel) (pda_cons (pd_var 0) (pda_cons (pd_type (T := "list") (by rfl) T.n_list (by decide +kernel)) pda_nil))) (pd_callB (kl_isi (K := K) (by rfl)) (by rfl) T.n_isinstance (by decide +kernel) (pda_cons (pd_var 1) (pda_cons (pd_type (T := "list") (by rfl) T.n_list (by decide +kernel)) pda_nil))) (nomark _)) (pdw_or1 (pdt_cmp (kd_ne (K := K) (by rfl) hu) (pd_callB (kl_isi (K := K) (by rfl)) (by rfl) T.n_isinstance (by decide +kernel) (pda_cons (pd_var 0) (pda_cons (pd_type (T := "tuple") (by rfl) T.n_tuple (by decide +kernel)) pda_nil))) (pd_callB (kl_isi (K := K) (by rfl)) (by rfl) T.n_isinstance (by decide +kernel) (pda_cons (pd_var 1) (pda_cons (pd_type (T := "tuple") (by rfl) T.n_tuple (by decide +kernel)) pda_nil))) (nomark _)))))
          (pdss_one (pds_ret pd_bl))
          pdss_nil)
        (pdss_one (pds_ret (pd_and (pd_cmp (kd_eq (K := K) (by rfl) hu) (pd_callB (kl_len (K := K) (by rfl)) (by rfl) T.n_len (by decide +kernel) (pda_cons (pd_var 0) pda_nil)) (pd_callB (kl_len (K := K) (by rfl)) (by rfl) T.n_len (by decide +kernel) (pda_cons (pd_var 1) pda_nil)) (nomark _)) (pd_one (pd_callB (kl_all (K := K) (by rfl) rfl) (by rfl) T.n_all (by decide +kernel) (pda_cons (pd_lc (own := [("_law_one", 2), ("_law_two", 3)]) rfl sc__law_same.nd (kdi_zip (K := K) (by rfl) (by rfl) T.n_zip (pda_cons (pd_var 0) (pda_cons (pd_var 1) pda_nil))) (blkOk_by (N := n__law_same) (sc := defScope s__law_same) (by decide +kernel)) (fun _ _ _ _ _ => (kdg_tup (K := K) (n := 2) (by rfl) rfl (pdgs_cons (pdg_name (i := 2) sc__law_same.nd rfl (by first | exact Or.inl rfl | exact Or.inr rfl)) (pdgs_cons (pdg_name (i := 3) sc__law_same.nd rfl (by first | exact Or.inl rfl | exact Or.inr rfl)) pdgs_nil)))) (own_tup (owns_cons (own_name (by decide)) (owns_cons (own_name (by decide)) owns_nil mono_name) mono_name)) (fun _ _ _ _ _ => pdts_nil) (fun _ _ _ _ _ => (kd_call (by exact ⟨rfl, rfl, rfl, rfl, rfl⟩) G__law_same (hr.mono (by omega)) (by rfl) T.m__law_same T.F__law_same.kp T.b__law_same .nil (fun _ _ _ => .nil) (pda_cons (pd_var 2) (pda_cons (pd_var 3) pda_nil))))) pda_nil)))))))
        pdss_nil)
      (pdss_cons (pds_if (pdt_w (pdw_or (pdt_cmp od_isN (pd_var 1) pd_non (nomark _)) (pdw_or1 (pdt_cmp od_isN (pd_var 0) pd_non (nomark _)))))
        (pdss_one (pds_ret (pd_and (pd_cmp od_isN (pd_var 1) pd_non (nomark _)) (pd_one (pd_cmp od_isN (pd_var 0) pd_non (nomark _))))))
        pdss_nil)
      (pdss_cons (pds_if (pdt_w (pdw_or (pdt_cmp (kd_ne (K := K) (by rfl) hu) (pd_callB (kl_isi (K := K) (by rfl)) (by rfl) T.n_isinstance (by decide +kernel) (pda_cons (pd_var 0) (pda_cons (pd_type (T := "bool") (by rfl) T.n_bool (by decide +kernel)) pda_nil))) (pd_callB (kl_isi (K := K) (by rfl)) (by rfl) T.n_isinstance (by decide +kernel) (pda_cons (pd_var 1) (pda_cons (pd_type (T := "bool") (by rfl) T.n_bool (by decide +kernel)) pda_nil))) (nomark _)) (pdw_or1 (pdt_cmp (kd_ne (K := K) (by rfl) hu) (pd_callB (kl_isi (K := K) (by rfl)) (by rfl) T.n_isinstance (by decide +kernel) (pda_cons (pd_var 0) (pda_cons (pd_type (T := "int") (by rfl) T.n_int (by decide +kernel)) pda_nil))) (pd_callB (kl_isi (K := K) (by rfl)) (by rfl) T.n_isinstance (by decide +kernel) (pda_cons (pd_var 1) (pda_cons (pd_type (T := "int") (by rfl) T.n_int (by decide +kernel)) pda_nil))) (nomark _)))))
        (pdss_one (pds_ret pd_bl))
        pdss_nil)
      (pdss_one (pds_ret (pd_and (pd_cmp (kd_eq (K := K) (by rfl) hu) (pd_callB (kl_isi (K := K) (by rfl)) (by rfl) T.n_isinstance (by decide +kernel) (pda_cons (pd_var 0) (pda_cons (pd_type (T := "str") (by rfl) T.n_str (by decide +kernel)) pda_nil))) (pd_callB (kl_isi (K := K) (by rfl)) (by rfl) T.n_isinstance (by decide +kernel) (pda_cons (pd_var 1) (pda_cons (pd_type (T := "str") (by rfl) T.n_str (by decide +kernel)) pda_nil))) (nomark _)) (pd_one (pd_cmp (kd_eq (K := K) (by rfl) hu) (pd_var 0) (pd_var 1) (nomark _)))))))))), ?_⟩
  obtain ⟨d, rfl, h1, hΦ⟩ := hc
  cases d with
  | lst xs =>
    simp only [sameOk, Bool.and_eq_true, decide_eq_true_eq, List.all_eq_true] at h1
    walk_at "D"
    rw [pairs_self]
    refine dLcL_map (items := xs.map fun x => .tup [x, x]) (fun _ => .bl true) (by rw [List.length_map]; exact h1.1) trivial ?_ ?_
    · refine ⟨xs.map fun _ => true, by simp [asL_lst], ?_⟩
      have : (xs.map fun _ => true).all id = true := by simp
      rw [this]; exact hΦ
    · intro y hy N hN
      obtain ⟨x, hx, rfl⟩ := List.mem_map.mp hy
      walk_at "D"
      exact ⟨x, rfl, h1.2 x hx, hN⟩
  | tup xs =>
    simp only [sameOk, Bool.and_eq_true, decide_eq_true_eq, List.all_eq_true] at h1
    walk_at "D"
    rw [pairs_self]
    refine dLcL_map (items := xs.map fun x => .tup [x, x]) (fun _ => .bl true) (by rw [List.length_map]; exact h1.1) trivial ?_ ?_
    · refine ⟨xs.map fun _ => true, by simp [asL_lst], ?_⟩
      have : (xs.map fun _ => true).all id = true := by simp
      rw [this]; exact hΦ
    · intro y hy N hN
      obtain ⟨x, hx, rfl⟩ := List.mem_map.mp hy
      walk_at "D"
      exact ⟨x, rfl, h1.2 x hx, hN⟩
  | non =>
    walk_at "D"
    exact hΦ
  | bl c =>
    walk_at "D"
    exact hΦ
  | int i =>
    walk_at "D"
    exact hΦ
  | str i =>
    walk_at "D"
    exact hΦ
  | _ => cases h1
theorem ok__law_same (T : Tx K mg) : ∀ n, FnOk P w K mg base CX0 n T.f__law_same T.fd__law_same ["_law_found", "_law_due"] (sp0 K (c__law_same n))
  | 0 => fn_false fun ds η Φ h => by obtain ⟨d, -, h, -⟩ := h; cases d <;> cases h
  | n + 1 => step__law_same n T (ok__law_same T n)

theorem unref_py {η : Eta} : ∀ {x : D}, pyOk x = true → unref η x = x
  | .ref p, h => by cases h
  | .non, _ | .bl _, _ | .int _, _ | .str _, _ | .lst _, _ | .tup _, _ => rfl
theorem tyN_py {η : Eta} : ∀ {x : D}, pyOk x = true → (tyN η x).isSome = true
  | .ref p, h => by cases h
  | .non, _ | .bl _, _ | .int _, _ | .str _, _ | .lst _, _ | .tup _, _ => rfl
theorem dDep_str {z : Str} {x : D} : dDep x (.str z) := by
  unfold dDep
  have : (toPy (.str z)).depth = 0 := by simp [toPy, PyData.depth]
  rw [this]; simp
def isBy : D → Bool := fun x => isNum x 0 255
def arB (x : D) (m : Int) : Bool := match x with
  | .tup xs => decide ((xs.length : Int) ≤ m) && xs.all isBy
  | _ => false
theorem arB_tup {xs : List D} {m : Int} : arB (.tup xs) m = (decide ((xs.length : Int) ≤ m) && xs.all isBy) := rfl
def c_are_bytes : Ct := fun ds η Φ => ∃ x m, ds = [x, .int m] ∧ pyOk x = true ∧ m ≤ 1000 ∧ Φ (.bl (arB x m)) η
theorem ok_are_bytes  (T : Tx K mg) (G_is_byte : FnOk P w K mg base CX0 2 T.f_is_byte T.fd_is_byte ["value"] (sp0 K c_is_byte)) : FnOk P w K mg base CX0 3 T.f_are_bytes T.fd_are_bytes ["value", "most"] (sp0 K c_are_bytes) := by
  refine fn0 T.F_are_bytes sc_are_bytes (fun ds η Φ h => by obtain ⟨_, _, rfl, _⟩ := h; rfl) fun cdv A outer s H E ds η Φ hr hc => ?_
  have hu := hr.units
  refine ⟨_, _, (pdss_one (pds_ret (pd_and (pd_callB (kl_isi (K := K) (by rfl)) (by rfl) T.n_isinstance (by decide +kernel) (pda_cons (pd_var 0) (pda_cons (pd_type (T := "tuple") (by rfl) T.n_tuple (by decide +kernel)) pda_nil))) (pd_and (pd_cmp od_le (pd_callB (kl_len (K := K) (by rfl)) (by rfl) T.n_len (by decide +kernel) (pda_cons (pd_var 0) pda_nil)) (pd_var 1) (nomark _)) (pd_one (pd_callB (kl_all (K := K) (by rfl) rfl) (by rfl) T.n_all (by decide +kernel) (pda_cons (pd_lc (own := [("item", 2)]) rfl sc_are_bytes.nd (kdi_tup (K := K) (by rfl) (pd_var 0)) (blkOk_by (N := n_are_bytes) (sc := defScope s_are_bytes) (by decide +kernel)) (fun _ _ _ _ _ => (pdg_name (i := 2) sc_are_bytes.nd rfl (by first | exact Or.inl rfl | exact Or.inr rfl))) (own_name (by decide)) (fun _ _ _ _ _ => pdts_nil) (fun _ _ _ _ _ => (kd_call (by exact ⟨rfl, rfl, rfl, rfl, rfl⟩) G_is_byte (hr.mono (by omega)) (by rfl) T.m_is_byte T.F_is_byte.kp T.b_is_byte .nil (fun _ _ _ => .nil) (pda_cons (pd_var 2) pda_nil)))) pda_nil))))))), ?_⟩
  obtain ⟨x, m, rfl, hx, hm, hΦ⟩ := hc
  cases x with
  | tup xs =>
    walk_at "D"
    cases h : decide ((xs.length : Int) ≤ m) with
    | false => rw [arB_tup, h] at hΦ; exact hΦ
    | true =>
      have h' := of_decide_eq_true h
      rw [if_pos rfl]
      refine dLcL_map (items := xs) (fun d => .bl (isBy d)) (by omega) trivial ?_ ?_
      · refine ⟨xs.map isBy, by rw [asL_lst, List.map_map]; rfl, ?_⟩
        rw [arB_tup, h] at hΦ
        rw [List.all_map]; exact hΦ
      · intro y hy N hN
        walk_at "D"
        have hp : pyOk y = true := by
          have : pyOks xs = true := hx
          rw [pyOks_eq] at this
          exact List.all_eq_true.mp this y hy
        exact ⟨_, rfl, tyN_py hp, hN⟩
  | non => walk_at "D"; exact hΦ
  | bl b => walk_at "D"; exact hΦ
  | int b => walk_at "D"; exact hΦ
  | lst b => walk_at "D"; exact hΦ
  | str b => walk_at "D"; exact hΦ
  | _ => cases hx
def evs : List D := [.tup [.str "item"], .tup [.str "end"]]
def hasMore : D → Bool
  | .tup xs => decide (0 < (xs.length : Int))
  | _ => false
def isEv : D → Bool
  | .tup [a] => dIn (.tup [a]) evs
  | .tup [a, b] => if dEqv a (.str "free") = true then (if arB b 8 = true then hasMore b else false) else if dEqv a (.str "pick") = true then isNum b 0 255 else if dEqv a (.str "size") = true then isNum b 0 9 else false
  | _ => false
theorem isEv2 (a b : D) : isEv (.tup [a, b]) = if dEqv a (.str "free") = true then (if arB b 8 = true then hasMore b else false) else if dEqv a (.str "pick") = true then isNum b 0 255 else if dEqv a (.str "size") = true then isNum b 0 9 else false := rfl
theorem isEv_free {b : D} : isEv (.tup [.str "free", b]) = if arB b 8 = true then hasMore b else false := by
  rw [isEv2, dEqv_str, if_pos (by decide +kernel)]
theorem isEv_pick {b : D} : isEv (.tup [.str "pick", b]) = isNum b 0 255 := by
  rw [isEv2, dEqv_str, if_neg (by decide +kernel), dEqv_str, if_pos (by decide +kernel)]
theorem isEv_size {b : D} : isEv (.tup [.str "size", b]) = isNum b 0 9 := by
  rw [isEv2, dEqv_str, if_neg (by decide +kernel), dEqv_str, if_neg (by decide +kernel), dEqv_str, if_pos (by decide +kernel)]
theorem isEv1 (z : Str) : isEv (.tup [.str z]) = (decide (z = "item") || decide (z = "end")) := by
  show dIn (.tup [.str z]) evs = _
  simp only [dIn, evs, List.any_cons, List.any_nil, dEqv_tup, dEqvs_cons, dEqvs_nil, dEqv_str, Bool.and_true, Bool.or_false]
  congr 1 <;> exact decide_eq_decide.mpr eq_comm
def Bad (d : D) : Prop := pyOk d = true ∧ isEv d = false
theorem cutD_mem {xs : List D} {lo hi : Option Int} {d : D} (h : d ∈ DL.cutD xs lo hi) : d ∈ xs := List.mem_of_mem_drop (List.mem_of_mem_take h)
theorem cutD_len {xs : List D} {lo hi : Option Int} : (DL.cutD xs lo hi).length ≤ xs.length := by
  unfold DL.cutD
  rw [List.length_take, List.length_drop]; omega
theorem no_evs {x : D} (h : ∀ a, x ≠ .tup [a]) : dIn x evs = false := by
  cases x with
  | tup xs =>
    match xs, h with
    | [], _ => simp [dIn, evs, dEqv_tup, dEqvs]
    | [a], h => exact absurd rfl (h a)
    | a :: b :: r, _ => simp [dIn, evs, dEqv_tup, dEqvs]
  | _ => simp [dIn, evs, dEqv, toPy, PyData.eqv]
theorem evs_dep {d : Nat} : min (PyData.depthAll (toPys [D.tup [D.str (Str.ofString "item")], D.tup [D.str (Str.ofString "end")]])) d ≤ 60 := by
  have : PyData.depthAll (toPys [D.tup [D.str (Str.ofString "item")], D.tup [D.str (Str.ofString "end")]]) = 1 := by simp [toPys, toPy, PyData.depthAll, PyData.depth]
  rw [this]; omega
def c_is_event : Ct := fun ds η Φ => ∃ x, ds = [x] ∧ pyOk x = true ∧ Φ (.bl (isEv x)) η
theorem ok_is_event  (T : Tx K mg) (G_is_number : FnOk P w K mg base CX0 1 T.f_is_number T.fd_is_number ["value", "least", "most"] (sp0 K c_is_number)) (G_is_byte : FnOk P w K mg base CX0 2 T.f_is_byte T.fd_is_byte ["value"] (sp0 K c_is_byte)) (G_are_bytes : FnOk P w K mg base CX0 3 T.f_are_bytes T.fd_are_bytes ["value", "most"] (sp0 K c_are_bytes)) : FnOk P w K mg base CX0 4 T.f_is_event T.fd_is_event ["value"] (sp0 K c_is_event) := by
  refine fn0 T.F_is_event sc_is_event (fun ds η Φ h => by obtain ⟨_, rfl, _⟩ := h; rfl) fun cdv A outer s H E ds η Φ hr hc => ?_
  have hu := hr.units
  refine ⟨_, _, (pdss_cons (pds_if (pdt_cmp (kd_in (K := K) (by rfl) hu) (pd_var 0) (pd_tup (pda_cons (pd_tup (pda_cons (pd_str ⟨by decide +kernel, by decide +kernel⟩) pda_nil)) (pda_cons (pd_tup (pda_cons (pd_str ⟨by decide +kernel, by decide +kernel⟩) pda_nil)) pda_nil))) (by rfl))
        (pdss_one (pds_ret pd_bl))
        pdss_nil)
      (pdss_cons (pds_if (pdt_w (pdw_or (pdt_not (pdt_val (pd_callB (kl_isi (K := K) (by rfl)) (by rfl) T.n_isinstance (by decide +kernel) (pda_cons (pd_var 0) (pda_cons (pd_type (T := "tuple") (by rfl) T.n_tuple (by decide +kernel)) pda_nil))))) (pdw_or1 (pdt_cmp (kd_ne (K := K) (by rfl) hu) (pd_callB (kl_len (K := K) (by rfl)) (by rfl) T.n_len (by decide +kernel) (pda_cons (pd_var 0) pda_nil)) pd_int (nomark _)))))
        (pdss_one (pds_ret pd_bl))
        pdss_nil)
      (pdss_cons (pds_if (pdt_cmp (kd_eq (K := K) (by rfl) hu) (pd_ix (kd_ix (K := K) (by rfl)) (pd_var 0) pd_int (fun _ _ => rfl)) (pd_str ⟨by decide +kernel, by decide +kernel⟩) (nomark _))
        (pdss_one (pds_ret (pd_and (kd_call (by exact ⟨rfl, rfl, rfl, rfl, rfl⟩) G_are_bytes (hr.mono (by omega)) (by rfl) T.m_are_bytes T.F_are_bytes.kp T.b_are_bytes .nil (fun _ _ _ => .nil) (pda_cons (pd_ix (kd_ix (K := K) (by rfl)) (pd_var 0) pd_int (fun _ _ => rfl)) (pda_cons pd_int pda_nil))) (pd_one (pd_cmp od_gt (pd_callB (kl_len (K := K) (by rfl)) (by rfl) T.n_len (by decide +kernel) (pda_cons (pd_ix (kd_ix (K := K) (by rfl)) (pd_var 0) pd_int (fun _ _ => rfl)) pda_nil)) pd_int (nomark _))))))
        pdss_nil)
      (pdss_cons (pds_if (pdt_cmp (kd_eq (K := K) (by rfl) hu) (pd_ix (kd_ix (K := K) (by rfl)) (pd_var 0) pd_int (fun _ _ => rfl)) (pd_str ⟨by decide +kernel, by decide +kernel⟩) (nomark _))
        (pdss_one (pds_ret (kd_call (by exact ⟨rfl, rfl, rfl, rfl, rfl⟩) G_is_byte (hr.mono (by omega)) (by rfl) T.m_is_byte T.F_is_byte.kp T.b_is_byte .nil (fun _ _ _ => .nil) (pda_cons (pd_ix (kd_ix (K := K) (by rfl)) (pd_var 0) pd_int (fun _ _ => rfl)) pda_nil))))
        pdss_nil)
      (pdss_one (pds_ret (pd_and (pd_cmp (kd_eq (K := K) (by rfl) hu) (pd_ix (kd_ix (K := K) (by rfl)) (pd_var 0) pd_int (fun _ _ => rfl)) (pd_str ⟨by decide +kernel, by decide +kernel⟩) (nomark _)) (pd_one (kd_call (by exact ⟨rfl, rfl, rfl, rfl, rfl⟩) G_is_number (hr.mono (by omega)) (by rfl) T.m_is_number T.F_is_number.kp T.b_is_number .nil (fun _ _ _ => .nil) (pda_cons (pd_ix (kd_ix (K := K) (by rfl)) (pd_var 0) pd_int (fun _ _ => rfl)) (pda_cons pd_int (pda_cons pd_int pda_nil)))))))))))), ?_⟩
  obtain ⟨x, rfl, hx, hΦ⟩ := hc
  refine dSeq_by (fun δ' η' => δ' = [some x] ∧ η = η' ∧ ∀ a, x = .tup [a] → isEv x = false) (fun N hN => ?_) ?_
  · walk_at "D"
    rw [unref_py hx]
    refine ⟨hx, evs_dep, ?_⟩
    by_cases hs : ∃ a, x = .tup [a]
    · obtain ⟨a, rfl⟩ := hs
      have e : isEv (.tup [a]) = dIn (.tup [a]) evs := rfl
      cases h : dIn (.tup [a]) evs with
      | true => rw [e, h] at hΦ; rw [show dIn (.tup [a]) [D.tup [D.str (Str.ofString "item")], D.tup [D.str (Str.ofString "end")]] = true from h]; exact hΦ
      | false =>
        rw [show dIn (.tup [a]) [D.tup [D.str (Str.ofString "item")], D.tup [D.str (Str.ofString "end")]] = false from h]
        exact hN _ _ ⟨rfl, rfl, fun a' _ => by rw [e, h]⟩
    · rw [show dIn x [D.tup [D.str (Str.ofString "item")], D.tup [D.str (Str.ofString "end")]] = false from no_evs fun a e => hs ⟨a, e⟩]
      exact hN _ _ ⟨rfl, rfl, fun a e => (hs ⟨a, e⟩).elim⟩
  rintro δ' η' ⟨rfl, rfl, hs⟩
  refine dSeq_by (fun δ' η' => ∃ a b, x = .tup [a, b] ∧ δ' = [some (.tup [a, b])] ∧ η = η') (fun N hN => ?_) ?_
  · cases x with
    | tup xs =>
      match xs, hs, hN, hΦ with
      | [], _, _, hΦ => rw [show isEv (.tup []) = false from rfl] at hΦ; walk_at "D"; simpa using hΦ
      | [a], hs, _, hΦ => rw [hs a rfl] at hΦ; walk_at "D"; simpa using hΦ
      | [a, b], _, hN, _ => walk_at "D"; simpa using hN _ _ ⟨a, b, rfl, rfl, rfl⟩
      | a :: b :: c :: r, _, _, hΦ => walk_at "D"; rw [if_pos (by simp; omega)]; exact hΦ
    | non => walk_at "D"; exact hΦ
    | bl b => walk_at "D"; exact hΦ
    | int b => walk_at "D"; exact hΦ
    | lst b => walk_at "D"; exact hΦ
    | str b => walk_at "D"; exact hΦ
    | _ => cases hx
  rintro δ' η' ⟨a, b, rfl, rfl, rfl⟩
  have hab : pyOk a = true ∧ pyOk b = true := by
    have : (pyOk a && (pyOk b && true)) = true := hx
    simpa using this
  rw [isEv2] at hΦ
  walk_at "D"
  rw [unref_py hab.1]
  refine ⟨hab.1, ?_⟩
  by_cases h1 : dEqv a (.str "free") = true
  · rw [if_pos h1] at hΦ
    rw [if_pos h1]
    refine ⟨_, _, rfl, hab.2, by decide, _, rfl, ?_⟩
    by_cases h2 : arB b 8 = true
    · rw [if_pos h2] at hΦ ⊢
      cases b with
      | tup ys => walk_at "D"; exact hΦ
      | _ => cases h2
    · rw [if_neg h2] at hΦ ⊢; exact hΦ
  · rw [if_neg h1] at hΦ ⊢
    refine ⟨hab.1, ?_⟩
    by_cases h2 : dEqv a (.str "pick") = true
    · rw [if_pos h2] at hΦ
      rw [if_pos h2]
      exact ⟨_, rfl, tyN_py hab.2, hΦ⟩
    · rw [if_neg h2] at hΦ
      rw [if_neg h2]
      refine ⟨hab.1, ?_⟩
      by_cases h3 : dEqv a (.str "size") = true
      · rw [if_pos h3] at hΦ
        rw [if_pos h3]
        exact ⟨_, _, _, rfl, tyN_py hab.2, hΦ⟩
      · rw [if_neg h3] at hΦ
        rw [if_neg h3]
        exact hΦ
def c_law : Ct := fun ds η Φ => ∃ ns : List Int, ds = [.klst (ns.map .int)] ∧ ns.length ≤ 63 ∧ ∀ η', Φ (.bl true) η'
theorem hc_law (ns : List Int) (Φ : DK) (h1 : ns.length ≤ 63) (h2 : ∀ η, Φ (.bl true) η) : c_law [.klst (ns.map D.int)] (fun _ => none) Φ := ⟨ns, rfl, h1, h2⟩
theorem ok_law  (T : Tx K mg) (G_is_event : FnOk P w K mg base CX0 4 T.f_is_event T.fd_is_event ["value"] (sp0 K c_is_event)) (G__law_of : FnOk P w K mg base CX0 2 T.f__law_of T.fd__law_of ["_law_bag_here", "_law_some"] (sp0 K c__law_of)) (G__law_pull : FnOk P w K mg base CX0 1 T.f__law_pull T.fd__law_pull ["_law_bag_here", "_law_many"] (sp0 K c__law_pull)) (G__law_same : FnOk P w K mg base CX0 4 T.f__law_same T.fd__law_same ["_law_found", "_law_due"] (sp0 K (c__law_same 4))) (G__law_bag : FnOk P w K mg base CX0 1 T.f__law_bag T.fd__law_bag ["_law_script"] (sp0 K c__law_bag)) : FnOk P w K mg base CX0 5 T.f_law T.fd_law ["_law_script"] (sp0 K c_law) := by
  refine fn0 T.F_law sc_law (fun ds η Φ h => by obtain ⟨_, rfl, _⟩ := h; rfl) fun cdv A outer s H E ds η Φ hr hc => ?_
  have hu := hr.units
  refine ⟨_, _, (pdss_cons (pds_set (i := 1) sc_law.nd rfl (by first | exact Or.inl rfl | exact Or.inr rfl) (kd_call (by exact ⟨rfl, rfl, rfl, rfl, rfl⟩) G__law_bag (hr.mono (by omega)) (by rfl) T.m__law_bag T.F__law_bag.kp T.b__law_bag .nil (fun _ _ _ => .nil) (pda_cons (pd_var 0) pda_nil)))
      (pdss_cons (pds_for PassesOwn.never rfl (pdi_range1 (by rfl) T.n_range (pda_cons pd_int pda_nil)) (pdg_name (i := 2) sc_law.nd rfl (by first | exact Or.inl rfl | exact Or.inr rfl))
        (pdss_cons (pds_set (i := 3) sc_law.nd rfl (by first | exact Or.inl rfl | exact Or.inr rfl) (kd_call (by exact ⟨rfl, rfl, rfl, rfl, rfl⟩) G__law_pull (hr.mono (by omega)) (by rfl) T.m__law_pull T.F__law_pull.kp T.b__law_pull .nil (fun _ _ _ => .nil) (pda_cons (pd_var 1) (pda_cons pd_int pda_nil))))
        (pdss_cons (pds_set (i := 4) sc_law.nd rfl (by first | exact Or.inl rfl | exact Or.inr rfl) (pd_tup (pda_cons (pd_str ⟨by decide +kernel, by decide +kernel⟩) (pda_cons (pd_callTy (kl_tuple (K := K) (by rfl)) (by rfl) T.n_tuple (by decide +kernel) (pda_cons (pd_lc (own := [("_law_k", 13)]) rfl sc_law.nd (pdi_range1 (by rfl) T.n_range (pda_cons (pd_var 3) pda_nil)) (blkOk_by (N := n_law) (sc := defScope s_law) (by decide +kernel)) (fun _ _ _ _ _ => (pdg_name (i := 13) sc_law.nd rfl (by first | exact Or.inl rfl | exact Or.inr rfl))) (own_name (by decide)) (fun _ _ _ _ _ => pdts_nil) (fun _ _ _ _ _ => (kd_call (by exact ⟨rfl, rfl, rfl, rfl, rfl⟩) G__law_pull (hr.mono (by omega)) (by rfl) T.m__law_pull T.F__law_pull.kp T.b__law_pull .nil (fun _ _ _ => .nil) (pda_cons (pd_var 1) (pda_cons pd_int pda_nil))))) pda_nil)) pda_nil))))
        (pdss_cons (pds_par (i := 5) (j := 6) rfl sc_law.nd rfl rfl (by decide) rfl rfl (pda_cons (pd_op od_sub (kd_call (by exact ⟨rfl, rfl, rfl, rfl, rfl⟩) G__law_pull (hr.mono (by omega)) (by rfl) T.m__law_pull T.F__law_pull.kp T.b__law_pull .nil (fun _ _ _ => .nil) (pda_cons (pd_var 1) (pda_cons pd_int pda_nil))) pd_int) (pda_cons (pd_op od_sub (kd_call (by exact ⟨rfl, rfl, rfl, rfl, rfl⟩) G__law_pull (hr.mono (by omega)) (by rfl) T.m__law_pull T.F__law_pull.kp T.b__law_pull .nil (fun _ _ _ => .nil) (pda_cons (pd_var 1) (pda_cons pd_int pda_nil))) pd_int) pda_nil)) (by rfl))
        (pdss_cons (pds_set (i := 7) sc_law.nd rfl (by first | exact Or.inl rfl | exact Or.inr rfl) (pd_lst (pda_cons (kd_call (by exact ⟨rfl, rfl, rfl, rfl, rfl⟩) G_is_event (hr.mono (by omega)) (by rfl) T.m_is_event T.F_is_event.kp T.b_is_event .nil (fun _ _ _ => .nil) (pda_cons (pd_var 4) pda_nil)) (pda_cons (kd_call (by exact ⟨rfl, rfl, rfl, rfl, rfl⟩) G_is_event (hr.mono (by omega)) (by rfl) T.m_is_event T.F_is_event.kp T.b_is_event .nil (fun _ _ _ => .nil) (pda_cons (pd_tup (pda_cons (pd_str ⟨by decide +kernel, by decide +kernel⟩) (pda_cons (pd_var 5) pda_nil))) pda_nil)) (pda_cons (kd_callK0 (by exact ⟨rfl, rfl, rfl, rfl, rfl⟩) G_is_event (hr.mono (by omega)) (by rfl) T.m_is_event T.F_is_event.kp T.kb_is_event_0_value (pdk_cons (pd_tup (pda_cons (pd_str ⟨by decide +kernel, by decide +kernel⟩) (pda_cons (pd_var 6) pda_nil))) pdk_nil)) pda_nil)))))
        (pdss_cons (pds_if (pdt_not (pdt_val (kd_call (by exact ⟨rfl, rfl, rfl, rfl, rfl⟩) G__law_same (hr.mono (by omega)) (by rfl) T.m__law_same T.F__law_same.kp T.b__law_same .nil (fun _ _ _ => .nil) (pda_cons (pd_var 7) (pda_cons (pd_lst (pda_cons (pd_chain od_le od_le pd_int (pd_var 3) pd_int) (pda_cons (pd_chain od_le od_le pd_int (pd_var 5) pd_int) (pda_cons (pd_chain od_le od_le pd_int (pd_var 6) pd_int) pda_nil)))) pda_nil)))))
          (pdss_one (pds_ret pd_bl))
          pdss_nil)
        (pdss_cons (pds_par (i := 8) (j := 9) rfl sc_law.nd rfl rfl (by decide) rfl rfl (pda_cons (kd_call (by exact ⟨rfl, rfl, rfl, rfl, rfl⟩) G__law_pull (hr.mono (by omega)) (by rfl) T.m__law_pull T.F__law_pull.kp T.b__law_pull .nil (fun _ _ _ => .nil) (pda_cons (pd_var 1) (pda_cons (pd_op (kd_add (K := K) (by rfl)) (pd_var 3) pd_int) pda_nil))) (pda_cons (kd_call (by exact ⟨rfl, rfl, rfl, rfl, rfl⟩) G__law_of (hr.mono (by omega)) (by rfl) T.m__law_of T.F__law_of.kp T.b__law_of .nil (fun _ _ _ => .nil) (pda_cons (pd_var 1) (pda_cons (pd_lst (pda_cons pd_non (pda_cons pd_bl (pda_cons (pd_neg pd_int) (pda_cons pd_int (pda_cons (pd_str ⟨by decide +kernel, by decide +kernel⟩) (pda_cons (pd_tup (pda_cons pd_int pda_nil)) pda_nil))))))) pda_nil))) pda_nil)) (by rfl))
        (pdss_cons (pds_set (i := 10) sc_law.nd rfl (by first | exact Or.inl rfl | exact Or.inr rfl) (pd_tup (pda_cons (pd_str ⟨by decide +kernel, by decide +kernel⟩) (pda_cons (pd_op (kd_add (K := K) (by rfl)) (pd_op (kd_add (K := K) (by rfl)) (pd_slice (kd_sl (K := K) (by rfl)) (pd_ix (kd_ix (K := K) (by rfl)) (pd_var 4) pd_int (fun _ _ => rfl)) pdo_none (pdo_some (pd_var 8))) (pd_tup (pda_cons (pd_var 9) pda_nil))) (pd_slice (kd_sl (K := K) (by rfl)) (pd_ix (kd_ix (K := K) (by rfl)) (pd_var 4) pd_int (fun _ _ => rfl)) (pdo_some (pd_var 8)) pdo_none)) pda_nil))))
        (pdss_cons (pds_set (i := 11) sc_law.nd rfl (by first | exact Or.inl rfl | exact Or.inr rfl) (pd_lst (pda_cons (pd_var 10) (pda_cons (pd_tup (pda_cons (pd_str ⟨by decide +kernel, by decide +kernel⟩) (pda_cons (pd_callTy (kl_list (K := K) (by rfl)) (by rfl) T.n_list (by decide +kernel) (pda_cons (pd_ix (kd_ix (K := K) (by rfl)) (pd_var 4) pd_int (fun _ _ => rfl)) pda_nil)) pda_nil))) (pda_cons (pd_lst (pda_cons (pd_str ⟨by decide +kernel, by decide +kernel⟩) pda_nil)) (pda_cons (pd_tup (pda_cons (pd_str ⟨by decide +kernel, by decide +kernel⟩) (pda_cons pd_int pda_nil))) (pda_cons (pd_tup (pda_cons (pd_str ⟨by decide +kernel, by decide +kernel⟩) (pda_cons (pd_tup pda_nil) pda_nil))) (pda_cons (pd_tup (pda_cons (pd_str ⟨by decide +kernel, by decide +kernel⟩) pda_nil)) (pda_cons (pd_tup (pda_cons (pd_str ⟨by decide +kernel, by decide +kernel⟩) (pda_cons (pd_var 9) pda_nil))) (pda_cons (pd_tup (pda_cons (pd_str ⟨by decide +kernel, by decide +kernel⟩) pda_nil)) pda_nil))))))))))
        (pdss_cons (pds_set (i := 11) sc_law.nd rfl (by first | exact Or.inl rfl | exact Or.inr rfl) (pd_op (kd_add (K := K) (by rfl)) (pd_var 11) (pd_lst (pda_cons (pd_tup (pda_cons (pd_str ⟨by decide +kernel, by decide +kernel⟩) (pda_cons (kd_call (by exact ⟨rfl, rfl, rfl, rfl, rfl⟩) G__law_of (hr.mono (by omega)) (by rfl) T.m__law_of T.F__law_of.kp T.b__law_of .nil (fun _ _ _ => .nil) (pda_cons (pd_var 1) (pda_cons (pd_lst (pda_cons pd_non (pda_cons pd_bl (pda_cons (pd_neg pd_int) (pda_cons pd_int (pda_cons (pd_str ⟨by decide +kernel, by decide +kernel⟩) pda_nil)))))) pda_nil))) pda_nil))) (pda_cons (pd_tup (pda_cons (pd_str ⟨by decide +kernel, by decide +kernel⟩) pda_nil)) (pda_cons (pd_tup (pda_cons (pd_str ⟨by decide +kernel, by decide +kernel⟩) (pda_cons pd_int pda_nil))) (pda_cons (pd_tup pda_nil) (pda_cons (pd_tup (pda_cons (pd_str ⟨by decide +kernel, by decide +kernel⟩) pda_nil)) (pda_cons (kd_call (by exact ⟨rfl, rfl, rfl, rfl, rfl⟩) G__law_of (hr.mono (by omega)) (by rfl) T.m__law_of T.F__law_of.kp T.b__law_of .nil (fun _ _ _ => .nil) (pda_cons (pd_var 1) (pda_cons (pd_lst (pda_cons pd_non (pda_cons pd_int (pda_cons (pd_str ⟨by decide +kernel, by decide +kernel⟩) (pda_cons pd_bl (pda_cons (pd_lst (pda_cons (pd_tup (pda_cons (pd_str ⟨by decide +kernel, by decide +kernel⟩) pda_nil)) pda_nil)) pda_nil)))))) pda_nil))) pda_nil)))))))))
        (pdss_one (pds_if (pdt_cmp (kd_ne (K := K) (by rfl) hu) (pd_lc (own := [("_law_one", 12)]) rfl sc_law.nd (kdi_list (K := K) (by rfl) (pd_var 11)) (blkOk_by (N := n_law) (sc := defScope s_law) (by decide +kernel)) (fun _ _ _ _ _ => (pdg_name (i := 12) sc_law.nd rfl (by first | exact Or.inl rfl | exact Or.inr rfl))) (own_name (by decide)) (fun _ _ _ _ _ => pdts_nil) (fun _ _ _ _ _ => (kd_call (by exact ⟨rfl, rfl, rfl, rfl, rfl⟩) G_is_event (hr.mono (by omega)) (by rfl) T.m_is_event T.F_is_event.kp T.b_is_event .nil (fun _ _ _ => .nil) (pda_cons (pd_var 12) pda_nil)))) (pd_op od_rep (pd_lst (pda_cons pd_bl pda_nil)) (pd_callB (kl_len (K := K) (by rfl)) (by rfl) T.n_len (by decide +kernel) (pda_cons (pd_var 11) pda_nil))) (nomark _))
          (pdss_one (pds_ret pd_bl))
          pdss_nil))))))))))))
      (pdss_one (pds_ret (pd_cmp (kd_eq (K := K) (by rfl) hu) (pd_lst (pda_cons (kd_call (by exact ⟨rfl, rfl, rfl, rfl, rfl⟩) G_is_event (hr.mono (by omega)) (by rfl) T.m_is_event T.F_is_event.kp T.b_is_event .nil (fun _ _ _ => .nil) (pda_cons (pd_tup (pda_cons (pd_str ⟨by decide +kernel, by decide +kernel⟩) pda_nil)) pda_nil)) (pda_cons (kd_call (by exact ⟨rfl, rfl, rfl, rfl, rfl⟩) G_is_event (hr.mono (by omega)) (by rfl) T.m_is_event T.F_is_event.kp T.b_is_event .nil (fun _ _ _ => .nil) (pda_cons (pd_tup (pda_cons (pd_str ⟨by decide +kernel, by decide +kernel⟩) pda_nil)) pda_nil)) (pda_cons (kd_call (by exact ⟨rfl, rfl, rfl, rfl, rfl⟩) G_is_event (hr.mono (by omega)) (by rfl) T.m_is_event T.F_is_event.kp T.b_is_event .nil (fun _ _ _ => .nil) (pda_cons (pd_tup (pda_cons (pd_str ⟨by decide +kernel, by decide +kernel⟩) (pda_cons pd_int pda_nil))) pda_nil)) (pda_cons (kd_call (by exact ⟨rfl, rfl, rfl, rfl, rfl⟩) G_is_event (hr.mono (by omega)) (by rfl) T.m_is_event T.F_is_event.kp T.b_is_event .nil (fun _ _ _ => .nil) (pda_cons (pd_tup (pda_cons (pd_str ⟨by decide +kernel, by decide +kernel⟩) (pda_cons (pd_tup pda_nil) pda_nil))) pda_nil)) pda_nil))))) (pd_lst (pda_cons pd_bl (pda_cons pd_bl (pda_cons pd_bl (pda_cons pd_bl pda_nil))))) (nomark _)))))), ?_⟩
  obtain ⟨ns, rfl, hl, hΦ⟩ := hc
  refine dSeq_by (fun δ' η' => ∃ b, δ' = [some (.klst (ns.map .int)), some (.ref b), none, none, none, none, none, none, none, none, none, none, none, none] ∧ Bag η' b) (fun N hN => ?_) ?_
  · walk_at "D"
    exact ⟨ns, rfl, hl, fun b η' _ hD => hN _ _ ⟨b, rfl, hD.1⟩⟩
  rintro δ' η1 ⟨b, rfl, hB⟩
  generalize hks : (.klst (ns.map .int) : D) = ks at *
  refine dSeq_by (fun δ' η' => ∃ v2 v3 v4 v5 v6 v7 v8 v9 v10 v11 v12 v13, δ' = [some ks, some (.ref b), v2, v3, v4, v5, v6, v7, v8, v9, v10, v11, v12, v13] ∧ Bag η' b) (fun N hN => ?_) ?_
  · refine ⟨6, rfl, by decide, by decide, ?_⟩
    refine dForL_by (items := iota 0 6) (fun δ' η' => ∃ v2 v3 v4 v5 v6 v7 v8 v9 v10 v11 v12 v13, δ' = [some ks, some (.ref b), v2, v3, v4, v5, v6, v7, v8, v9, v10, v11, v12, v13] ∧ Bag η' b) ?_ ?_ _ (fun _ h => h) _ _ ⟨_, _, _, _, _, _, _, _, _, _, _, _, rfl, hB⟩
    · intro δ η h; exact ⟨trivial, hN _ _ h⟩
    clear hN hB
    rintro x hx δ η1 N ⟨v2, v3, v4, v5, v6, v7, v8, v9, v10, v11, v12, v13, rfl, hB⟩ hN
    refine ⟨trivial, ?_⟩
    clear hx
    -- how many
    refine dSeq_by (fun δ' η' => ∃ m : Int, 0 ≤ m ∧ m < 11 ∧ δ' = [some ks, some (.ref b), some x, some (.int m), v4, v5, v6, v7, v8, v9, v10, v11, v12, v13] ∧ Bag η' b) (fun N hN => ?_) ?_
    · walk_at "D"
      exact ⟨b, _, rfl, hB, by decide, by decide, fun r η2 r0 r1 hD => hN _ _ ⟨r, r0, r1, rfl, hD.1⟩⟩
    clear hB
    rintro δ' η2 ⟨m, m0, m1, rfl, hB⟩
    refine dSeq_by (fun δ' η' => ∃ ys : List Int, (ys.length : Int) = m ∧ (∀ y ∈ ys, 0 ≤ y ∧ y < 256) ∧ δ' = [some ks, some (.ref b), some x, some (.int m), some (.tup [.str "free", .tup (ys.map .int)]), v5, v6, v7, v8, v9, v10, v11, v12, v13] ∧ Bag η' b) (fun N hN => ?_) ?_
    · walk_at "D"
      refine ⟨by omega, by omega, ?_⟩
      refine dLcL_pre (items := iota 0 m.toNat) (fun pre acc η' => Bag η' b ∧ ∃ ys : List Int, acc = ys.map D.int ∧ ys.length = pre.length ∧ ∀ y ∈ ys, 0 ≤ y ∧ y < 256) ?_ ?_ [] _ rfl _ _ ⟨hB, [], rfl, rfl, fun _ h => by cases h⟩
      · rintro acc η' ⟨hB, ys, rfl, hy, hs⟩
        rw [iota_length] at hy
        refine ⟨trivial, _, rfl, hN _ _ ⟨ys, by omega, hs, rfl, hB⟩⟩
      · rintro pre y post e acc η' N ⟨hB, ys, rfl, hy, hs⟩ hN
        have hpl : pre.length < 11 := by
          have := congrArg List.length e
          rw [iota_length, List.length_append, List.length_cons] at this; omega
        refine ⟨trivial, ?_⟩
        walk_at "D"
        refine ⟨b, _, rfl, hB, by decide, by decide, fun c η3 c0 c1 hD => ⟨?_, hN _ _ ⟨hD.1, ys ++ [c], by simp, by simp [hy], ?_⟩⟩⟩
        · show _ < sizeLine; rw [sizeLine_eq]; omega
        · intro y hy
          rcases List.mem_append.mp hy with hy | hy
          · exact hs y hy
          · rw [List.mem_singleton.mp hy]; exact ⟨c0, c1⟩
    clear hB
    rintro δ' η3 ⟨ys, hm, hys, rfl, hB⟩
    refine dSeq_by (fun δ' η' => ∃ p q : Int, δ' = [some ks, some (.ref b), some x, some (.int m), some (.tup [.str "free", .tup (ys.map .int)]), some (.int p), some (.int q), v7, v8, v9, v10, v11, v12, v13] ∧ Bag η' b) (fun N hN => ?_) ?_
    · walk_at "D"
      exact ⟨b, _, rfl, hB, by decide, by decide, fun r η2 r0 r1 hD => ⟨_, rfl, b, _, rfl, hD.1, by decide, by decide, fun r2 η3 r3 r4 hD2 => ⟨_, rfl, hN _ _ ⟨_, _, rfl, hD2.1⟩⟩⟩⟩
    clear hB
    rintro δ' η4 ⟨p, q, rfl, hB⟩
    refine dSeq_by (fun δ' η' => δ' = [some ks, some (.ref b), some x, some (.int m), some (.tup [.str "free", .tup (ys.map .int)]), some (.int p), some (.int q), some (.lst [.bl (decide (1 ≤ m) && decide (m ≤ 8)), .bl (decide (0 ≤ p) && decide (p ≤ 255)), .bl (decide (0 ≤ q) && decide (q ≤ 9))]), v8, v9, v10, v11, v12, v13] ∧ Bag η' b) (fun N hN => ?_) ?_
    · walk_at "D"
      have e1 : isEv (.tup [.str "free", .tup (ys.map .int)]) = (decide (1 ≤ m) && decide (m ≤ 8)) := by
        rw [isEv_free, arB_tup, List.length_map, hm, show ((ys.map D.int).all isBy) = true from List.all_eq_true.mpr fun d hd => by
          obtain ⟨c, hc, rfl⟩ := List.mem_map.mp hd
          have := hys c hc
          show (decide (0 ≤ c) && decide (c ≤ 255)) = true
          rw [decide_eq_true this.1, decide_eq_true (by omega)]; rfl, Bool.and_true]
        have : hasMore (.tup (ys.map .int)) = decide (1 ≤ m) := by
          show decide (0 < ((ys.map D.int).length : Int)) = _
          rw [List.length_map, hm]; exact decide_eq_decide.mpr (by omega)
        rw [this]
        cases decide (m ≤ 8) <;> cases decide (1 ≤ m) <;> rfl
      have e2 : isEv (.tup [.str "pick", .int p]) = (decide (0 ≤ p) && decide (p ≤ 255)) := isEv_pick
      have e3 : isEv (.tup [.str "size", .int q]) = (decide (0 ≤ q) && decide (q ≤ 9)) := isEv_size
      have hp : pyOk (.tup [.str "free", .tup (ys.map .int)]) = true := by
        show (true && (pyOks (ys.map D.int) && true)) = true
        rw [pyOks_eq, show ((ys.map D.int).all pyOk) = true from List.all_eq_true.mpr fun d hd => by obtain ⟨c, hc, rfl⟩ := List.mem_map.mp hd; rfl]; rfl
      refine ⟨_, rfl, hp, _, rfl, rfl, _, rfl, rfl, ?_⟩
      have := hN _ _ ⟨rfl, hB⟩
      rw [← e1, ← e2, ← e3] at this
      exact this
    clear hB
    rintro δ' η5 ⟨rfl, hB⟩
    refine dSeq_by (fun δ' η' => δ' = [some ks, some (.ref b), some x, some (.int m), some (.tup [.str "free", .tup (ys.map .int)]), some (.int p), some (.int q), some (.lst [.bl (decide (1 ≤ m) && decide (m ≤ 8)), .bl (decide (0 ≤ p) && decide (p ≤ 255)), .bl (decide (0 ≤ q) && decide (q ≤ 9))]), v8, v9, v10, v11, v12, v13] ∧ Bag η' b) (fun N hN => ?_) ?_
    · walk_at "D"
      generalize decide (1 ≤ m) = c1 at *
      generalize decide (0 ≤ p) = c2 at *
      generalize decide (0 ≤ q) = c3 at *
      cases c1 <;> cases c2 <;> cases c3 <;> exact same_go rfl rfl (hN _ _ ⟨rfl, hB⟩)
    generalize (D.lst [.bl (decide (1 ≤ m) && decide (m ≤ 8)), .bl (decide (0 ≤ p) && decide (p ≤ 255)), .bl (decide (0 ≤ q) && decide (q ≤ 9))]) = w7
    clear hB
    rintro δ' η6 ⟨rfl, hB⟩
    refine dSeq_by (fun δ' η' => ∃ (a : Int) (o : D), o ∈ [D.non, .bl true, .int (-1), .int 256, .str "1", .tup [.int 1]] ∧ δ' = [some ks, some (.ref b), some x, some (.int m), some (.tup [.str "free", .tup (ys.map .int)]), some (.int p), some (.int q), some w7, some (.int a), some o, v10, v11, v12, v13] ∧ Bag η' b) (fun N hN => ?_) ?_
    · walk_at "D"
      refine ⟨b, _, rfl, hB, by omega, log2_small (by omega), fun r η8 r0 r1 hD => ?_⟩
      refine ⟨b, _, _, rfl, hD.1, rfl, by decide, by decide, fun o η9 ho hD2 => ?_⟩
      exact hN _ _ ⟨r, o, ho, rfl, hD2.1⟩
    clear hB
    rintro δ' η7 ⟨a, o, ho, rfl, hB⟩
    refine dSeq_by (fun δ' η' => ∃ us ws : List D, (∀ u ∈ us ++ ws, pyOk u = true) ∧ δ' = [some ks, some (.ref b), some x, some (.int m), some (.tup [.str "free", .tup (ys.map .int)]), some (.int p), some (.int q), some w7, some (.int a), some o, some (.tup [.str "free", .tup (us ++ [o] ++ ws)]), v11, v12, v13] ∧ Bag η' b) (fun N hN => ?_) ?_
    · walk_at "D"
      have l1 := cutD_len (xs := ys.map .int) (lo := none) (hi := some a)
      have l2 := cutD_len (xs := ys.map .int) (lo := some a) (hi := none)
      rw [List.length_map] at l1 l2
      have l0 : sizeLine = 16777216 := sizeLine_eq
      refine ⟨by omega, by rw [List.length_append, List.length_cons, List.length_nil]; omega, hN _ _ ⟨_, _, ?_, rfl, hB⟩⟩
      intro u hu
      have : u ∈ ys.map D.int := by
        rcases List.mem_append.mp hu with h | h
        · exact cutD_mem h
        · exact cutD_mem h
      obtain ⟨c, -, rfl⟩ := List.mem_map.mp this
      rfl
    clear hB
    rintro δ' η8 ⟨us, ws, huw, rfl, hB⟩
    have hpo : pyOk o = true ∧ isBy o = false ∧ isEv (.tup [.str "pick", o]) = false := by
      simp only [List.mem_cons, List.not_mem_nil, or_false] at ho
      rcases ho with rfl | rfl | rfl | rfl | rfl | rfl <;> exact ⟨rfl, by decide, by rw [isEv_pick]; decide⟩
    have hpy : pyOks (ys.map D.int) = true := by
      rw [pyOks_eq]
      exact List.all_eq_true.mpr fun d hd => by obtain ⟨c, hc, rfl⟩ := List.mem_map.mp hd; rfl
    refine dSeq_by (fun δ' η' => ∃ ds : List D, ds.length = 8 ∧ (∀ d ∈ ds, Bad d) ∧ δ' = [some ks, some (.ref b), some x, some (.int m), some (.tup [.str "free", .tup (ys.map .int)]), some (.int p), some (.int q), some w7, some (.int a), some o, some (.tup [.str "free", .tup (us ++ [o] ++ ws)]), some (.lst ds), v12, v13] ∧ Bag η' b) (fun N hN => ?_) ?_
    · walk_at "D"
      refine hN _ _ ⟨_, rfl, ?_, rfl, hB⟩
      intro d hd
      simp only [List.mem_cons, List.not_mem_nil, or_false] at hd
      rcases hd with rfl | rfl | rfl | rfl | rfl | rfl | rfl | rfl
      · refine ⟨?_, ?_⟩
        · show (true && (pyOks (us ++ [o] ++ ws) && true)) = true
          rw [pyOks_eq, Bool.and_true, Bool.true_and]
          refine List.all_eq_true.mpr fun d hd => ?_
          rcases List.mem_append.mp hd with h | h
          · rcases List.mem_append.mp h with h | h
            · exact huw d (List.mem_append.mpr (.inl h))
            · rw [List.mem_singleton.mp h]; exact hpo.1
          · exact huw d (List.mem_append.mpr (.inr h))
        · rw [isEv_free, if_neg]
          rw [arB_tup, List.all_append, List.all_append, List.all_cons, hpo.2.1]; simp
      · refine ⟨?_, ?_⟩
        · show (true && (pyOks (ys.map D.int) && true)) = true
          rw [hpy]; rfl
        · rw [isEv_free, if_neg]; exact fun h => by cases h
      · exact ⟨rfl, rfl⟩
      · exact ⟨rfl, by rw [isEv2, dEqv_str, if_neg (by decide +kernel), dEqv_str, if_neg (by decide +kernel), dEqv_str, if_neg (by decide +kernel)]⟩
      · exact ⟨rfl, by rw [isEv2, dEqv_str, if_neg (by decide +kernel), dEqv_str, if_neg (by decide +kernel), dEqv_str, if_neg (by decide +kernel)]⟩
      · exact ⟨rfl, by rw [isEv1]; decide +kernel⟩
      · exact ⟨by show (true && (pyOk o && true)) = true; rw [hpo.1]; rfl, hpo.2.2⟩
      · exact ⟨rfl, by rw [isEv1]; decide +kernel⟩
    clear hB
    rintro δ' η9 ⟨ds, hds, hbad, rfl, hB⟩
    refine dSeq_by (fun δ' η' => ∃ ds : List D, ds.length = 14 ∧ (∀ d ∈ ds, Bad d) ∧ δ' = [some ks, some (.ref b), some x, some (.int m), some (.tup [.str "free", .tup (ys.map .int)]), some (.int p), some (.int q), some w7, some (.int a), some o, some (.tup [.str "free", .tup (us ++ [o] ++ ws)]), some (.lst ds), v12, v13] ∧ Bag η' b) (fun N hN => ?_) ?_
    · walk_at "D"
      refine ⟨b, _, _, rfl, hB, rfl, by decide, by decide, fun o1 η10 ho1 hD => ?_⟩
      refine ⟨b, _, _, rfl, hD.1, rfl, by decide, by decide, fun o2 η11 ho2 hD2 => ?_⟩
      have l0 : sizeLine = 16777216 := sizeLine_eq
      refine ⟨by rw [hds]; decide, hN _ _ ⟨_, ?_, ?_, rfl, hD2.1⟩⟩
      · simp [hds]
      intro d hd
      rcases List.mem_append.mp hd with hd | hd
      · exact hbad d hd
      simp only [List.mem_cons, List.not_mem_nil, or_false] at hd
      rcases hd with rfl | rfl | rfl | rfl | rfl | rfl
      · simp only [List.mem_cons, List.not_mem_nil, or_false] at ho1
        rcases ho1 with rfl | rfl | rfl | rfl | rfl <;> exact ⟨rfl, by rw [isEv_size]; decide⟩
      · exact ⟨rfl, by rw [isEv1]; decide +kernel⟩
      · exact ⟨rfl, by rw [isEv_free]; rfl⟩
      · exact ⟨rfl, rfl⟩
      · exact ⟨rfl, by rw [isEv1]; decide +kernel⟩
      · simp only [List.mem_cons, List.not_mem_nil, or_false] at ho2
        rcases ho2 with rfl | rfl | rfl | rfl | rfl <;> exact ⟨rfl, rfl⟩
    clear hB hbad hds
    rintro δ' η10 ⟨ds, hds, hbad, rfl, hB⟩
    walk_at "D"
    refine dLcL_map (items := ds) (fun d => .bl (isEv d)) (by omega) trivial ?_ ?_
    · have e : ds.map (fun d => D.bl (isEv d)) = (List.replicate ds.length false).map D.bl := by
        rw [List.map_replicate]
        exact List.map_eq_replicate_iff.mpr fun d hd => by rw [(hbad d hd).2]
      rw [e, Int.toNat_natCast, rep_bls, unref_lst]
      refine ⟨by omega, by omega, by rw [hds]; decide, pyOks_bls _, pyOks_bls _, dDep_bls, ?_⟩
      rw [dEqv_lst, dEqv_bls, if_neg (by decide)]
      exact hN _ _ ⟨_, _, _, _, _, _, _, _, _, _, _, _, rfl, hB⟩
    · intro y hy N hN
      walk_at "D"
      exact ⟨y, rfl, (hbad y hy).1, hN⟩
  rintro δ' η2 ⟨v2, v3, v4, v5, v6, v7, v8, v9, v10, v11, v12, v13, rfl, hB⟩
  walk_at "D"
  refine ⟨_, rfl, rfl, _, rfl, rfl, _, rfl, rfl, _, rfl, rfl, ?_⟩
  rw [show isEv (.tup [.str (Str.ofString "item")]) = true from by rw [isEv1]; decide +kernel, show isEv (.tup [.str (Str.ofString "end")]) = true from by rw [isEv1]; decide +kernel,
    show isEv (.tup [.str (Str.ofString "size"), .int 9]) = true from by rw [show Str.ofString "size" = "size" from rfl, isEv_size]; decide, show isEv (.tup [.str (Str.ofString "free"), .tup []]) = false from by rw [show Str.ofString "free" = "free" from rfl, isEv_free]; decide]
  refine ⟨rfl, dDep_bls (bs := [true, true, true, false]), ?_⟩
  have e : dEqv (.lst [.bl true, .bl true, .bl true, .bl false]) (.lst [.bl true, .bl true, .bl true, .bl false]) = true := by rw [dEqv_lst]; exact dEqv_bls [true, true, true, false]
  rw [e]
  exact hΦ _

end
theorem chain {P : Program} {w : World} {K : PySem.W.Frag} {mg : Str → Option Value} {base : Heap} (T : Tx K mg) : FnOk P w K mg base CX0 5 T.f_law T.fd_law ["_law_script"] (sp0 K c_law) := by
  have G_is_number := ok_is_number (P := P) (w := w) (base := base) T
  have G_is_byte := ok_is_byte (P := P) (w := w) (base := base) T G_is_number
  have G__law_bag := ok__law_bag (P := P) (w := w) (base := base) T
  have G__law_pull := ok__law_pull (P := P) (w := w) (base := base) T
  have G__law_of := ok__law_of (P := P) (w := w) (base := base) T G__law_pull
  have G__law_same := ok__law_same (P := P) (w := w) (base := base) T 4
  have G_are_bytes := ok_are_bytes (P := P) (w := w) (base := base) T G_is_byte
  have G_is_event := ok_is_event (P := P) (w := w) (base := base) T G_is_number G_is_byte G_are_bytes
  have G_law := ok_law (P := P) (w := w) (base := base) T G_is_event G__law_of G__law_pull G__law_same G__law_bag
  exact G_law

theorem fin_mk {l : PySem.W.OpenLaw} {w : World} {K : PySem.W.Frag} {h : Heap} {mg : Str → Option Value} {fa : Addr} (X : K.In h) (G : h.Ns mainGlobals mg) (hfa : mg "law" = some (.ref fa))
    {f_is_number : Addr} {od_is_number an_is_number : Option Addr} {sl_is_number : Array (Option Value)} {oc_is_number kV_is_number dc_is_number pm_is_number cd_is_number ct_is_number : Value}
    (a_is_number : PySem.W.nsIn K mainGlobals "is_number" = some (some (.ref f_is_number))) (l_is_number : K.lookup f_is_number = some ⟨oc_is_number, od_is_number, .func (PySem.W.fnOf "is_number" "is_number" (defArgs s_is_number) (defBody s_is_number) (defScope s_is_number) .none kV_is_number dc_is_number pm_is_number an_is_number cd_is_number ct_is_number), sl_is_number⟩) (co_is_number : PySem.W.codeIn K cd_is_number "is_number" = true) (k_is_number : PySem.W.keepIn K (.ref f_is_number) = true)
    {f_is_byte : Addr} {od_is_byte an_is_byte : Option Addr} {sl_is_byte : Array (Option Value)} {oc_is_byte kV_is_byte dc_is_byte pm_is_byte cd_is_byte ct_is_byte : Value}
    (a_is_byte : PySem.W.nsIn K mainGlobals "is_byte" = some (some (.ref f_is_byte))) (l_is_byte : K.lookup f_is_byte = some ⟨oc_is_byte, od_is_byte, .func (PySem.W.fnOf "is_byte" "is_byte" (defArgs s_is_byte) (defBody s_is_byte) (defScope s_is_byte) .none kV_is_byte dc_is_byte pm_is_byte an_is_byte cd_is_byte ct_is_byte), sl_is_byte⟩) (co_is_byte : PySem.W.codeIn K cd_is_byte "is_byte" = true) (k_is_byte : PySem.W.keepIn K (.ref f_is_byte) = true)
    {f__law_bag : Addr} {od__law_bag an__law_bag : Option Addr} {sl__law_bag : Array (Option Value)} {oc__law_bag kV__law_bag dc__law_bag pm__law_bag cd__law_bag ct__law_bag : Value}
    (a__law_bag : PySem.W.nsIn K mainGlobals "_law_bag" = some (some (.ref f__law_bag))) (l__law_bag : K.lookup f__law_bag = some ⟨oc__law_bag, od__law_bag, .func (PySem.W.fnOf "_law_bag" "_law_bag" (defArgs s__law_bag) (defBody s__law_bag) (defScope s__law_bag) .none kV__law_bag dc__law_bag pm__law_bag an__law_bag cd__law_bag ct__law_bag), sl__law_bag⟩) (co__law_bag : PySem.W.codeIn K cd__law_bag "_law_bag" = true) (k__law_bag : PySem.W.keepIn K (.ref f__law_bag) = true)
    {f__law_pull : Addr} {od__law_pull an__law_pull : Option Addr} {sl__law_pull : Array (Option Value)} {oc__law_pull kV__law_pull dc__law_pull pm__law_pull cd__law_pull ct__law_pull : Value}
    (a__law_pull : PySem.W.nsIn K mainGlobals "_law_pull" = some (some (.ref f__law_pull))) (l__law_pull : K.lookup f__law_pull = some ⟨oc__law_pull, od__law_pull, .func (PySem.W.fnOf "_law_pull" "_law_pull" (defArgs s__law_pull) (defBody s__law_pull) (defScope s__law_pull) .none kV__law_pull dc__law_pull pm__law_pull an__law_pull cd__law_pull ct__law_pull), sl__law_pull⟩) (co__law_pull : PySem.W.codeIn K cd__law_pull "_law_pull" = true) (k__law_pull : PySem.W.keepIn K (.ref f__law_pull) = true)
    {f__law_of : Addr} {od__law_of an__law_of : Option Addr} {sl__law_of : Array (Option Value)} {oc__law_of kV__law_of dc__law_of pm__law_of cd__law_of ct__law_of : Value}
    (a__law_of : PySem.W.nsIn K mainGlobals "_law_of" = some (some (.ref f__law_of))) (l__law_of : K.lookup f__law_of = some ⟨oc__law_of, od__law_of, .func (PySem.W.fnOf "_law_of" "_law_of" (defArgs s__law_of) (defBody s__law_of) (defScope s__law_of) .none kV__law_of dc__law_of pm__law_of an__law_of cd__law_of ct__law_of), sl__law_of⟩) (co__law_of : PySem.W.codeIn K cd__law_of "_law_of" = true) (k__law_of : PySem.W.keepIn K (.ref f__law_of) = true)
    {f__law_same : Addr} {od__law_same an__law_same : Option Addr} {sl__law_same : Array (Option Value)} {oc__law_same kV__law_same dc__law_same pm__law_same cd__law_same ct__law_same : Value}
    (a__law_same : PySem.W.nsIn K mainGlobals "_law_same" = some (some (.ref f__law_same))) (l__law_same : K.lookup f__law_same = some ⟨oc__law_same, od__law_same, .func (PySem.W.fnOf "_law_same" "_law_same" (defArgs s__law_same) (defBody s__law_same) (defScope s__law_same) .none kV__law_same dc__law_same pm__law_same an__law_same cd__law_same ct__law_same), sl__law_same⟩) (co__law_same : PySem.W.codeIn K cd__law_same "_law_same" = true) (k__law_same : PySem.W.keepIn K (.ref f__law_same) = true)
    {f_are_bytes : Addr} {od_are_bytes an_are_bytes : Option Addr} {sl_are_bytes : Array (Option Value)} {oc_are_bytes kV_are_bytes dc_are_bytes pm_are_bytes cd_are_bytes ct_are_bytes : Value}
    (a_are_bytes : PySem.W.nsIn K mainGlobals "are_bytes" = some (some (.ref f_are_bytes))) (l_are_bytes : K.lookup f_are_bytes = some ⟨oc_are_bytes, od_are_bytes, .func (PySem.W.fnOf "are_bytes" "are_bytes" (defArgs s_are_bytes) (defBody s_are_bytes) (defScope s_are_bytes) .none kV_are_bytes dc_are_bytes pm_are_bytes an_are_bytes cd_are_bytes ct_are_bytes), sl_are_bytes⟩) (co_are_bytes : PySem.W.codeIn K cd_are_bytes "are_bytes" = true) (k_are_bytes : PySem.W.keepIn K (.ref f_are_bytes) = true)
    {f_is_event : Addr} {od_is_event an_is_event : Option Addr} {sl_is_event : Array (Option Value)} {oc_is_event kV_is_event dc_is_event pm_is_event cd_is_event ct_is_event : Value}
    (a_is_event : PySem.W.nsIn K mainGlobals "is_event" = some (some (.ref f_is_event))) (l_is_event : K.lookup f_is_event = some ⟨oc_is_event, od_is_event, .func (PySem.W.fnOf "is_event" "is_event" (defArgs s_is_event) (defBody s_is_event) (defScope s_is_event) .none kV_is_event dc_is_event pm_is_event an_is_event cd_is_event ct_is_event), sl_is_event⟩) (co_is_event : PySem.W.codeIn K cd_is_event "is_event" = true) (k_is_event : PySem.W.keepIn K (.ref f_is_event) = true)
    {f_law : Addr} {od_law an_law : Option Addr} {sl_law : Array (Option Value)} {oc_law kV_law dc_law pm_law cd_law ct_law : Value}
    (a_law : PySem.W.nsIn K mainGlobals "law" = some (some (.ref f_law))) (l_law : K.lookup f_law = some ⟨oc_law, od_law, .func (PySem.W.fnOf "law" "law" (defArgs s_law) (defBody s_law) (defScope s_law) .none kV_law dc_law pm_law an_law cd_law ct_law), sl_law⟩) (co_law : PySem.W.codeIn K cd_law "law" = true) (k_law : PySem.W.keepIn K (.ref f_law) = true)
    (z_all : PySem.W.nsIn K mainGlobals "all" = some none)
    (z_bool : PySem.W.nsIn K mainGlobals "bool" = some none)
    (z_dict : PySem.W.nsIn K mainGlobals "dict" = some none)
    (z_int : PySem.W.nsIn K mainGlobals "int" = some none)
    (z_isinstance : PySem.W.nsIn K mainGlobals "isinstance" = some none)
    (z_len : PySem.W.nsIn K mainGlobals "len" = some none)
    (z_list : PySem.W.nsIn K mainGlobals "list" = some none)
    (z_range : PySem.W.nsIn K mainGlobals "range" = some none)
    (z_str : PySem.W.nsIn K mainGlobals "str" = some none)
    (z_tuple : PySem.W.nsIn K mainGlobals "tuple" = some none)
    (z_zip : PySem.W.nsIn K mainGlobals "zip" = some none)
    : ∃ fd : FuncData, (∀ (s : Shared) (u : Value), BindsTo s fd ⟨[u], []⟩ [("_law_script", u)]) ∧ ∀ base : Heap, K.In base → base.Ns mainGlobals mg → FnOk l.prog w K mg base CX0 5 fa fd ["_law_script"] (sp0 K c_law) := by
  have e : f_law = fa := by cases hfa.symm.trans (PySem.W.mg_of X G a_law); rfl
  subst e
  have F_is_number := fun_mk (st := s_is_number) l_is_number co_is_number k_is_number
  have b_is_number := F_is_number.binds (ps := ["value", "least", "most"]) fun _ _ _ _ _ _ us hl => match us, hl with | [_, _, _], _ => rfl
  have F_is_byte := fun_mk (st := s_is_byte) l_is_byte co_is_byte k_is_byte
  have b_is_byte := F_is_byte.binds (ps := ["value"]) fun _ _ _ _ _ _ us hl => match us, hl with | [_], _ => rfl
  have F__law_bag := fun_mk (st := s__law_bag) l__law_bag co__law_bag k__law_bag
  have b__law_bag := F__law_bag.binds (ps := ["_law_script"]) fun _ _ _ _ _ _ us hl => match us, hl with | [_], _ => rfl
  have F__law_pull := fun_mk (st := s__law_pull) l__law_pull co__law_pull k__law_pull
  have b__law_pull := F__law_pull.binds (ps := ["_law_bag_here", "_law_many"]) fun _ _ _ _ _ _ us hl => match us, hl with | [_, _], _ => rfl
  have F__law_of := fun_mk (st := s__law_of) l__law_of co__law_of k__law_of
  have b__law_of := F__law_of.binds (ps := ["_law_bag_here", "_law_some"]) fun _ _ _ _ _ _ us hl => match us, hl with | [_, _], _ => rfl
  have F__law_same := fun_mk (st := s__law_same) l__law_same co__law_same k__law_same
  have b__law_same := F__law_same.binds (ps := ["_law_found", "_law_due"]) fun _ _ _ _ _ _ us hl => match us, hl with | [_, _], _ => rfl
  have F_are_bytes := fun_mk (st := s_are_bytes) l_are_bytes co_are_bytes k_are_bytes
  have b_are_bytes := F_are_bytes.binds (ps := ["value", "most"]) fun _ _ _ _ _ _ us hl => match us, hl with | [_, _], _ => rfl
  have F_is_event := fun_mk (st := s_is_event) l_is_event co_is_event k_is_event
  have b_is_event := F_is_event.binds (ps := ["value"]) fun _ _ _ _ _ _ us hl => match us, hl with | [_], _ => rfl
  have F_law := fun_mk (st := s_law) l_law co_law k_law
  have b_law := F_law.binds (ps := ["_law_script"]) fun _ _ _ _ _ _ us hl => match us, hl with | [_], _ => rfl
  have kb_is_event_0_value : KB K (PySem.W.fnOf "is_event" "is_event" (defArgs s_is_event) (defBody s_is_event) (defScope s_is_event) .none kV_is_event dc_is_event pm_is_event an_is_event cd_is_event ct_is_event) ["value"] 0 ["value"] [0] := KB.of fun us ws h1 h2 => match us, h1, ws, h2 with | [], _, [_], _ => rfl
  exact ⟨_, fun s v => .of_eq rfl, fun base _ _ => chain { f_is_number := f_is_number, fd_is_number := _, F_is_number := F_is_number, m_is_number := PySem.W.mg_of X G a_is_number, b_is_number := b_is_number, f_is_byte := f_is_byte, fd_is_byte := _, F_is_byte := F_is_byte, m_is_byte := PySem.W.mg_of X G a_is_byte, b_is_byte := b_is_byte, f__law_bag := f__law_bag, fd__law_bag := _, F__law_bag := F__law_bag, m__law_bag := PySem.W.mg_of X G a__law_bag, b__law_bag := b__law_bag, f__law_pull := f__law_pull, fd__law_pull := _, F__law_pull := F__law_pull, m__law_pull := PySem.W.mg_of X G a__law_pull, b__law_pull := b__law_pull, f__law_of := f__law_of, fd__law_of := _, F__law_of := F__law_of, m__law_of := PySem.W.mg_of X G a__law_of, b__law_of := b__law_of, f__law_same := f__law_same, fd__law_same := _, F__law_same := F__law_same, m__law_same := PySem.W.mg_of X G a__law_same, b__law_same := b__law_same, f_are_bytes := f_are_bytes, fd_are_bytes := _, F_are_bytes := F_are_bytes, m_are_bytes := PySem.W.mg_of X G a_are_bytes, b_are_bytes := b_are_bytes, f_is_event := f_is_event, fd_is_event := _, F_is_event := F_is_event, m_is_event := PySem.W.mg_of X G a_is_event, b_is_event := b_is_event, f_law := f_law, fd_law := _, F_law := F_law, m_law := PySem.W.mg_of X G a_law, b_law := b_law, n_all := PySem.W.mg_none_of X G z_all, n_bool := PySem.W.mg_none_of X G z_bool, n_dict := PySem.W.mg_none_of X G z_dict, n_int := PySem.W.mg_none_of X G z_int, n_isinstance := PySem.W.mg_none_of X G z_isinstance, n_len := PySem.W.mg_none_of X G z_len, n_list := PySem.W.mg_none_of X G z_list, n_range := PySem.W.mg_none_of X G z_range, n_str := PySem.W.mg_none_of X G z_str, n_tuple := PySem.W.mg_none_of X G z_tuple, n_zip := PySem.W.mg_none_of X G z_zip, kb_is_event_0_value := kb_is_event_0_value }⟩

end Mine
open PySem PySem.W PyProof.Rows
set_option maxRecDepth 100000 in
set_option maxHeartbeats 0 in
theorem PySem.Challenge.cw_headhold_k21_events_judged_holds : PySem.Challenge.rw_headhold_k21_events_judged.Holds := by
  w_on; o_law; k_head; (case hw => w_witness2)
  k_fill
  refine DL.law_end (l := PySem.Challenge.rw_headhold_k21_events_judged) (k := 5) (x := "_law_script") (c := Mine.c_law) rfl rfl ⟨rfl, by decide, by decide⟩ (fun w h Y => PySem.W.kIn_of Y) ?F ?hcl
  case F =>
    intro w mg fa h KX G hmg
    refine' Mine.fin_mk KX G hmg ?a_is_number ?l_is_number ?co_is_number ?k_is_number ?a_is_byte ?l_is_byte ?co_is_byte ?k_is_byte ?a__law_bag ?l__law_bag ?co__law_bag ?k__law_bag ?a__law_pull ?l__law_pull ?co__law_pull ?k__law_pull ?a__law_of ?l__law_of ?co__law_of ?k__law_of ?a__law_same ?l__law_same ?co__law_same ?k__law_same ?a_are_bytes ?l_are_bytes ?co_are_bytes ?k_are_bytes ?a_is_event ?l_is_event ?co_is_event ?k_is_event ?a_law ?l_law ?co_law ?k_law ?z_all ?z_bool ?z_dict ?z_int ?z_isinstance ?z_len ?z_list ?z_range ?z_str ?z_tuple ?z_zip
    (case a_is_number => k_is)
    (case l_is_number => k_is)
    (case co_is_number => k_is)
    (case k_is_number => k_is)
    (case a_is_byte => k_is)
    (case l_is_byte => k_is)
    (case co_is_byte => k_is)
    (case k_is_byte => k_is)
    (case a__law_bag => k_is)
    (case l__law_bag => k_is)
    (case co__law_bag => k_is)
    (case k__law_bag => k_is)
    (case a__law_pull => k_is)
    (case l__law_pull => k_is)
    (case co__law_pull => k_is)
    (case k__law_pull => k_is)
    (case a__law_of => k_is)
    (case l__law_of => k_is)
    (case co__law_of => k_is)
    (case k__law_of => k_is)
    (case a__law_same => k_is)
    (case l__law_same => k_is)
    (case co__law_same => k_is)
    (case k__law_same => k_is)
    (case a_are_bytes => k_is)
    (case l_are_bytes => k_is)
    (case co_are_bytes => k_is)
    (case k_are_bytes => k_is)
    (case a_is_event => k_is)
    (case l_is_event => k_is)
    (case co_is_event => k_is)
    (case k_is_event => k_is)
    (case a_law => k_is)
    (case l_law => k_is)
    (case co_law => k_is)
    (case k_law => k_is)
    (case z_all => k_is)
    (case z_bool => k_is)
    (case z_dict => k_is)
    (case z_int => k_is)
    (case z_isinstance => k_is)
    (case z_len => k_is)
    (case z_list => k_is)
    (case z_range => k_is)
    (case z_str => k_is)
    (case z_tuple => k_is)
    (case z_zip => k_is)
  case hcl => exact fun ns Φ h1 h2 => Mine.hc_law ns Φ h1 h2
end
