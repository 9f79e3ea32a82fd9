import PyProof.Rows.All
import Wide.All
import OpenK.AllK
import Wide.FinOn
import HandS.Base
import HandS.Call
import HandS.List
import HandS.Comp
import HandS.Ends
import HandS.Exc
import HandS.Codes
import HandS.Lambda
import HandS.Flow
import HandS.Style
import HandS.Wide
import HandS.TupAny
import HandS.IsInst
import HandS.Text
import HandS.Iter
import HandS.Deep
import HandS.Words
import HandS.WordsExc
import HandS.EndTab
import HandS.Zip
import HandS.SlotsOwn
import HandS.Gcd
import HandS.ClsMeth
import HandS.SortInts
import HandS.Defaults
import HandS.SetFor
import HandS.Strs
import HandS.Dict
import HandS.More
import HandS.WordsDict
import HandS.TupMul
import KE.KEqDict
import PyProof.Rows.StrMeet
import HandS.SetKeys
import HandS.SetBool
import PyProof.Rows.SortShellAny
import HandS.Star
import HandS.FStr
import HandS.StrMore
import HandS.RaiseMore
import HandS.DictComp
import KE.KExcInit
import KE.KExcSuper
import KE.KTryMore
import HandS.ExcInit
import HandS.HotCalls
import HandS.ExcField
import KE.KNestM
import KE.KLam
import KE.KNest
import PySem.Challenge.RW_headhold_k22_texts_of_events
section
set_option Elab.async false
set_option linter.all false
set_option autoImplicit false
set_option maxRecDepth 100000
set_option maxHeartbeats 4000000
namespace DL
open PySem PySem.Spec PyProof.Rows L2
/-- a value as data: what never changes is written out; a mutable object is its address -/
inductive D where
  | non | bl (b : Bool) | int (i : Int) | str (x : Str)
  | lst (xs : List D) | tup (xs : List D)
  | ref (a : Addr)
  | obj (C : Addr) (ns : List Str) (ds : List D)
  | dct (ks : List Key) (ds : List D)
  | ty (n : String)
  /-- a list that is only cut or walked (the script) -/
  | klst (xs : List D)
  /-- an exception -/
  | exc (C : Addr) (ns : List Str) (ds : List D)
/-- a mutable object -/
inductive M where
  | lst (ds : List D)
  | ins (C : Addr) (ns : List Str) (ds : List D)
  | dct (ks : List Key) (ds : List D)
abbrev Eta := Addr → Option M
def eup (η : Eta) (a : Addr) (m : M) : Eta := fun b => if b = a then some m else η b
theorem eup_same {η : Eta} {a : Addr} {m : M} : eup η a m a = some m := by unfold eup; rw [if_pos rfl]
theorem eup_ne {η : Eta} {a b : Addr} {m : M} (h : b ≠ a) : eup η a m b = η b := by unfold eup; rw [if_neg h]
def edel (η : Eta) (a : Addr) : Eta := fun b => if b = a then none else η b
abbrev DSt := List (Option D)
/-- a text that the model lays out -/
structure SOk (x : Str) : Prop where
  cp : PyData.strOk x = true
  len : x.length ≤ sizeLine
/-- an exception's object, its dict at d -/
def Exv (C d a : Addr) : HO := .ext fun h => ∃ (oe : Obj) (vs : Array Value), h.get? a = some oe ∧ oe.cls = .ref C ∧ oe.dict = some d ∧ oe.data = .fields vs
structure ExOk (R : Addr → Prop) (η : Eta) (H : Hp) (C d a : Addr) (fs : List (Str × V)) : Prop where
  at_ : H a = some (Exv C d a)
  n : η a = none
  r : ¬ R a
  dat : H d = some (.xd fs)
  dn : η d = none
  dr : ¬ R d
mutual
inductive Rep (K : PySem.W.Frag) (R : Addr → Prop) (η : Eta) (H : Hp) : V → D → Prop
  | non : Rep K R η H .non .non
  | bl (b : Bool) : Rep K R η H (.bl b) (.bl b)
  | int (i : Int) : Rep K R η H (.int i) (.int i)
  | str {x : Str} : SOk x → Rep K R η H (.str x) (.str x)
  | ty (n : String) : Rep K R η H (.ty n) (.ty n)
  | ref (a : Addr) : Rep K R η H (.ref a) (.ref a)
  | lst {a : Addr} {xs : List V} {ds : List D} : Rd H a (.lst xs) → η a = none → ¬ R a → Reps K R η H xs ds → Rep K R η H (.ref a) (.lst ds)
  | klst {a : Addr} {xs : List V} {ds : List D} : Rd H a (.lst xs) → η a = none → ¬ R a → Reps K R η H xs ds → Rep K R η H (.ref a) (.klst ds)
  | klstK {a : Addr} {xs : List V} {ds : List D} {o : Obj} {its : Array Value} {n : Nat} : K.lookup a = some o → o.cls = .type "list" → o.dict = none → o.data = .seq its n → its.size ≤ sizeLine → Vals xs its.toList → Reps K R η H xs ds → Rep K R η H (.ref a) (.klst ds)
  | tup {a : Addr} {xs : List V} {ds : List D} : Rd H a (.tup xs) → η a = none → ¬ R a → Reps K R η H xs ds → Rep K R η H (.ref a) (.tup ds)
  | tupK {a : Addr} {xs : List V} {ds : List D} {o : Obj} {its : Array Value} {n : Nat} : K.lookup a = some o → o.cls = .type "tuple" → o.data = .seq its n → its.size ≤ sizeLine → Vals xs its.toList → Reps K R η H xs ds → Rep K R η H (.ref a) (.tup ds)
  | obj {a C dx : Addr} {fs : List (Str × V)} {ns : List Str} {ds : List D} : H a = some (.ins C dx fs) → η a = none → ¬ R a → fs.map (·.1) = ns → Reps K R η H (fs.map (·.2)) ds → Rep K R η H (.ref a) (.obj C ns ds)
  | exc {a C d : Addr} {fs : List (Str × V)} {ns : List Str} {ds : List D} : ExOk R η H C d a fs → fs.map (·.1) = ns → Reps K R η H (fs.map (·.2)) ds → Rep K R η H (.ref a) (.exc C ns ds)
  | dct {a : Addr} {o : Obj} {kvs : List (Key × V)} {ks : List Key} {ds : List D} : H a = some (.frz o (.dK kvs)) → η a = none → ¬ R a → kvs.map (·.1) = ks → Reps K R η H (kvs.map (·.2)) ds → Rep K R η H (.ref a) (.dct ks ds)
inductive Reps (K : PySem.W.Frag) (R : Addr → Prop) (η : Eta) (H : Hp) : List V → List D → Prop
  | nil : Reps K R η H [] []
  | cons {v : V} {vs : List V} {d : D} {ds : List D} : Rep K R η H v d → Reps K R η H vs ds → Reps K R η H (v :: vs) (d :: ds)
end
/-- how the state goes on: what is no mutable object stays; what becomes mutable is new -/
structure Ext (η : Eta) (H : Hp) (η' : Eta) (H' : Hp) : Prop where
  keep : ∀ a o, η a = none → H a = some o → H' a = some o ∨ ∃ ps more, o = .tbl ps ∧ H' a = some (.tbl (ps ++ more))
  dom : ∀ a, η' a ≠ none → η a ≠ none ∨ H a = none
theorem Ext.refl (η : Eta) (H : Hp) : Ext η H η H := ⟨fun _ _ _ h => .inl h, fun _ h => .inl h⟩
theorem Ext.keepN {η η' : Eta} {H H' : Hp} (e : Ext η H η' H') (a : Addr) (o : HO) (n : η a = none) (h : H a = some o) (t : ∀ ps, o ≠ .tbl ps := by intro ps z; cases z) : H' a = some o := by
  rcases e.keep a o n h with z | ⟨ps, more, z, _⟩
  · exact z
  · exact absurd z (t ps)
theorem Ext.none_of {η η' : Eta} {H H' : Hp} {a : Addr} {o : HO} (e : Ext η H η' H') (n : η a = none) (h : H a = some o) : η' a = none := by
  cases q : η' a with
  | none => rfl
  | some m =>
    rcases e.dom a (by rw [q]; simp) with z | z
    · exact absurd n z
    · rw [h] at z; cases z
theorem Ext.trans {η η1 η2 : Eta} {H H1 H2 : Hp} (a : Ext η H η1 H1) (b : Ext η1 H1 η2 H2) : Ext η H η2 H2 where
  keep := fun x o n h => by
    have n1 := a.none_of n h
    rcases a.keep x o n h with h1 | ⟨ps, more, rfl, h1⟩
    · exact b.keep x o n1 h1
    · rcases b.keep x _ n1 h1 with h2 | ⟨ps2, more2, e, h2⟩
      · exact .inr ⟨ps, more, rfl, h2⟩
      · cases e; exact .inr ⟨ps, more ++ more2, rfl, by rw [← Array.append_assoc]; exact h2⟩
  dom := fun x h => by
    rcases b.dom x h with z | z
    · exact a.dom x z
    · cases e : η x with
      | some m => exact .inl (by simp)
      | none =>
        refine .inr ?_
        cases q : H x with
        | none => rfl
        | some o =>
          rcases a.keep x o e q with h1 | ⟨_, _, _, h1⟩ <;> (rw [z] at h1; cases h1)
/-- only new objects were laid -/
theorem Ext.ex {η : Eta} {H H' : Hp} (h : ∀ a o, H a = some o → H' a = some o) : Ext η H η H' := ⟨fun a o _ e => .inl (h a o e), fun _ h => .inl h⟩
theorem Ext.new {η : Eta} {H : Hp} {p : Addr} {o : HO} (h : H p = none) : Ext η H η (upd H p o) := Ext.ex fun a u e => by
  rw [upd_ne (ne_of_none e h)]; exact e
theorem ExOk.up {R : Addr → Prop} {η η' : Eta} {H H' : Hp} {C d a : Addr} {fs : List (Str × V)} (x : ExOk R η H C d a fs) (e : Ext η H η' H') : ExOk R η' H' C d a fs :=
  ⟨e.keepN _ _ x.n x.at_ (by intro ps z; unfold Exv at z; cases z), e.none_of x.n x.at_, x.r, e.keepN _ _ x.dn x.dat, e.none_of x.dn x.dat, x.dr⟩
theorem Ext.rd {η η' : Eta} {H H' : Hp} {a : Addr} {u : HO} (e : Ext η H η' H') (n : η a = none) (h : Rd H a u) (nt : ¬ ∃ ps, u = .tbl ps := by rintro ⟨_, z⟩; cases z) : Rd H' a u ∧ η' a = none := by
  rcases h with h | ⟨o, h⟩
  · by_cases t : ∀ ps, u ≠ .tbl ps
    · exact ⟨.inl (e.keepN a _ n h t), e.none_of n h⟩
    · exact absurd (by simpa using t) nt
  · exact ⟨.inr ⟨o, e.keepN a _ n h⟩, e.none_of n h⟩
mutual
theorem Rep.mono {K : PySem.W.Frag} {R : Addr → Prop} {η η' : Eta} {H H' : Hp} (e : Ext η H η' H') : ∀ (d : D) (v : V), Rep K R η H v d → Rep K R η' H' v d
  | .non, _, h => by cases h; exact .non
  | .bl _, _, h => by cases h; exact .bl _
  | .int _, _, h => by cases h; exact .int _
  | .str _, _, h => by cases h with | str a => exact .str a
  | .ty _, _, h => by cases h; exact .ty _
  | .ref _, _, h => by cases h; exact .ref _
  | .lst ds, _, h => by
    cases h with
    | lst a b r c => obtain ⟨a', b'⟩ := e.rd b a; exact .lst a' b' r (Reps.mono e ds _ c)
  | .klst ds, _, h => by
    cases h with
    | klst a b r c => obtain ⟨a', b'⟩ := e.rd b a; exact .klst a' b' r (Reps.mono e ds _ c)
    | klstK a1 a2 a3 a4 a5 a6 c => exact .klstK a1 a2 a3 a4 a5 a6 (Reps.mono e ds _ c)
  | .tup ds, _, h => by
    cases h with
    | tup a b r c => obtain ⟨a', b'⟩ := e.rd b a; exact .tup a' b' r (Reps.mono e ds _ c)
    | tupK a1 a2 a3 a4 a5 c => exact .tupK a1 a2 a3 a4 a5 (Reps.mono e ds _ c)
  | .obj C ns ds, _, h => by
    cases h with
    | obj a b r c d => exact .obj (e.keepN _ _ b a) (e.none_of b a) r c (Reps.mono e ds _ d)
  | .exc C ns ds, _, h => by
    cases h with
    | exc x c d => exact .exc (x.up e) c (Reps.mono e ds _ d)
  | .dct ks ds, _, h => by
    cases h with
    | dct a b r c d => exact .dct (e.keepN _ _ b a) (e.none_of b a) r c (Reps.mono e ds _ d)
theorem Reps.mono {K : PySem.W.Frag} {R : Addr → Prop} {η η' : Eta} {H H' : Hp} (e : Ext η H η' H') : ∀ (ds : List D) (vs : List V), Reps K R η H vs ds → Reps K R η' H' vs ds
  | [], _, h => by cases h; exact .nil
  | d :: ds, _, h => by
    cases h with
    | cons a b => exact .cons (Rep.mono e d _ a) (Reps.mono e ds _ b)
end
theorem Rep.up {K : PySem.W.Frag} {R : Addr → Prop} {η η' : Eta} {H H' : Hp} {v : V} {d : D} (h : Rep K R η H v d) (e : Ext η H η' H') : Rep K R η' H' v d := Rep.mono e d v h
theorem Reps.up {K : PySem.W.Frag} {R : Addr → Prop} {η η' : Eta} {H H' : Hp} {v : List V} {d : List D} (h : Reps K R η H v d) (e : Ext η H η' H') : Reps K R η' H' v d := Reps.mono e d v h
section
variable {K : PySem.W.Frag} {R : Addr → Prop} {η η' : Eta} {H H' : Hp}
theorem Reps.length : ∀ {vs : List V} {ds : List D}, Reps K R η H vs ds → vs.length = ds.length
  | _, _, .nil => rfl
  | _, _, .cons _ t => congrArg (· + 1) (Reps.length t)
theorem Reps.get : ∀ {vs : List V} {ds : List D} {i : Nat} {d : D}, Reps K R η H vs ds → ds[i]? = some d → ∃ v, vs[i]? = some v ∧ Rep K R η H v d
  | _, _, _, _, .nil, e => by simp at e
  | _, _, 0, _, .cons r _, e => by simp at e; subst e; exact ⟨_, rfl, r⟩
  | _, _, i + 1, d, .cons _ t, e => by
    obtain ⟨v, h1, h2⟩ := Reps.get (i := i) (d := d) t (by simpa using e)
    exact ⟨v, by simpa using h1, h2⟩
theorem Reps.append : ∀ {vs ws : List V} {ds es : List D}, Reps K R η H vs ds → Reps K R η H ws es → Reps K R η H (vs ++ ws) (ds ++ es)
  | _, _, _, _, .nil, s => s
  | _, _, _, _, .cons r t, s => .cons r (Reps.append t s)
theorem Reps.take : ∀ {vs : List V} {ds : List D} (n : Nat), Reps K R η H vs ds → Reps K R η H (vs.take n) (ds.take n)
  | _, _, 0, _ => .nil
  | _, _, _ + 1, .nil => .nil
  | _, _, n + 1, .cons r t => .cons r (Reps.take n t)
theorem Reps.drop : ∀ {vs : List V} {ds : List D} (n : Nat), Reps K R η H vs ds → Reps K R η H (vs.drop n) (ds.drop n)
  | _, _, 0, r => r
  | _, _, _ + 1, .nil => .nil
  | _, _, n + 1, .cons _ t => Reps.drop n t
theorem Reps.set {v : V} {d : D} (r : Rep K R η H v d) : ∀ {vs : List V} {ds : List D} (i : Nat), Reps K R η H vs ds → Reps K R η H (vs.set i v) (ds.set i d)
  | _, _, _, .nil => .nil
  | _, _, 0, .cons _ t => .cons r t
  | _, _, i + 1, .cons q t => .cons q (Reps.set r i t)
theorem Reps.reverse {vs : List V} {ds : List D} (h : Reps K R η H vs ds) : Reps K R η H vs.reverse ds.reverse := by
  induction ds generalizing vs with
  | nil => cases h; exact .nil
  | cons d ds ih =>
    cases h with
    | cons a b => rw [List.reverse_cons, List.reverse_cons]; exact (ih b).append (.cons a .nil)
theorem Reps.nil_iff {vs : List V} {ds : List D} (h : Reps K R η H vs ds) : vs = [] ↔ ds = [] := by
  cases h <;> simp
theorem Reps.of_ints : ∀ (ns : List Int), Reps K R η H (ns.map V.int) (ns.map D.int)
  | [] => .nil
  | n :: ns => .cons (.int n) (Reps.of_ints ns)
theorem Reps.bls : ∀ {ns : List Bool} {vs : List V}, Reps K R η H vs (ns.map D.bl) → vs = ns.map V.bl
  | [], _, h => by cases h; rfl
  | n :: ns, _, h => by
    cases h with
    | cons a b => cases a; rw [Reps.bls b]; rfl
theorem Reps.strs : ∀ {ns : List Str} {vs : List V}, Reps K R η H vs (ns.map D.str) → vs = ns.map V.str
  | [], _, h => by cases h; rfl
  | n :: ns, _, h => by
    cases h with
    | cons a b => cases a; rw [Reps.strs b]; rfl
/-- a list, a tuple that is data can be read -/
theorem Rep.sqL {v : V} {ds : List D} (h : Rep K R η H v (.lst ds)) : ∃ a xs, v = .ref a ∧ SqL K H a xs ∧ Reps K R η H xs ds := by
  cases h with
  | lst a b r c => exact ⟨_, _, rfl, .inl a, c⟩
theorem Rep.rdL {v : V} {ds : List D} (h : Rep K R η H v (.lst ds)) : ∃ a xs, v = .ref a ∧ Rd H a (.lst xs) ∧ Reps K R η H xs ds := by
  cases h with
  | lst a b r c => exact ⟨_, _, rfl, a, c⟩
theorem Rep.sqT {v : V} {ds : List D} (h : Rep K R η H v (.tup ds)) : ∃ a xs, v = .ref a ∧ SqT K H a xs ∧ Reps K R η H xs ds := by
  cases h with
  | tup a b r c => exact ⟨_, _, rfl, .inl a, c⟩
  | tupK a1 a2 a3 a4 a5 c => exact ⟨_, _, rfl, .inr ⟨_, _, _, a1, a2, a3, a4, a5⟩, c⟩
end
/-- a mutable object as it stands -/
def MOk (K : PySem.W.Frag) (R : Addr → Prop) (η : Eta) (H : Hp) (a : Addr) : M → Prop
  | .lst ds => ∃ xs, H a = some (.lst xs) ∧ Reps K R η H xs ds
  | .ins C ns ds => ∃ dx fs, H a = some (.ins C dx fs) ∧ fs.map (·.1) = ns ∧ Reps K R η H (fs.map (·.2)) ds
  | .dct ks ds => ∃ kvs, H a = some (.dK kvs) ∧ kvs.map (·.1) = ks ∧ Reps K R η H (kvs.map (·.2)) ds
/-- the table of code objects of a def that makes lambdas -/
def TabK (K : PySem.W.Frag) (P : Addr) (q : Str) : Prop := (K.lookup P = none ∧ ∃ g : Addr, PySem.W.nsIn K mainGlobals "_law_try" = some (some (.ref g))) ∧ ∃ (nm : Str) (f c : Addr) (oc : Value) (od : Option Addr) (fd : FuncData) (sl : Array (Option Value)) (o : Obj) (vs : Array Value), nm ∈ (["law", "_law_deed", "_law_apply", "_law_kept_so"] : List Str) ∧
  PySem.W.nsIn K mainGlobals nm = some (some (.ref f)) ∧ K.lookup f = some ⟨oc, od, .func fd, sl⟩ ∧ fd.code = .ref c ∧ K.lookup c = some o ∧ o.data = .fields vs ∧ vs[11]? = some (.ref P) ∧ q = nm ++ ".<locals>." ++ "<lambda>"
structure TbOk (R : Addr → Prop) (η : Eta) (H : Hp) (P : Addr) (q : Str) : Prop where
  n : η P = none
  r : ¬ R P
  at_ : ∃ ps : Array Value, H P = some (.tbl ps) ∧ TriplesOk ps.toList ∧ ∀ (pos : Pos) (cv : Value), codeAmong pos ps.toList = some cv → ∃ c, cv = .ref c ∧ H c = some (LamX.CodeO c q) ∧ η c = none ∧ ¬ R c
theorem TbOk.go {R R' : Addr → Prop} {η η' : Eta} {H H' : Hp} {P : Addr} {q : Str} (t : TbOk R η H P q) (h : ∀ a o, H a = some o → η a = none → ¬ R a → H' a = some o ∧ η' a = none ∧ ¬ R' a) : TbOk R' η' H' P q := by
  obtain ⟨ps, h1, h2, h3⟩ := t.at_
  obtain ⟨a1, a2, a3⟩ := h P _ h1 t.n t.r
  refine ⟨a2, a3, ps, a1, h2, fun pos cv hc => ?_⟩
  obtain ⟨c, e, e1, e2, e3⟩ := h3 pos cv hc
  obtain ⟨b1, b2, b3⟩ := h c _ e1 e2 e3
  exact ⟨c, e, b1, b2, b3⟩
/-- the mutable objects stand; what is kept back stands and is none of them -/
structure Lk (K : PySem.W.Frag) (R : Addr → Prop) (η : Eta) (H : Hp) : Prop where
  m : ∀ a m, η a = some m → MOk K R η H a m
  r : ∀ a, R a → H a ≠ none ∧ η a = none
  tb : ∀ P q, TabK K P q → TbOk R η H P q
structure Sl (K : PySem.W.Frag) (R : Addr → Prop) (η : Eta) (H : Hp) (δ : DSt) (σ : L2.St) : Prop where
  len : σ.length = δ.length
  at_ : ∀ (i : Nat) (d : D), δ[i]? = some (some d) → ∃ v, σ[i]? = some (some v) ∧ Rep K R η H v d
section
variable {K : PySem.W.Frag} {R : Addr → Prop} {η η' : Eta} {H H' : Hp} {δ : DSt} {σ : L2.St}
theorem Sl.up (s : Sl K R η H δ σ) (e : Ext η H η' H') : Sl K R η' H' δ σ := ⟨s.len, fun i d h => let ⟨v, a, b⟩ := s.at_ i d h; ⟨v, a, b.up e⟩⟩
theorem Sl.set {v : V} {d : D} (s : Sl K R η H δ σ) (r : Rep K R η H v d) (i : Nat) : Sl K R η H (δ.set i (some d)) (σ.set i (some v)) := by
  refine ⟨by simp [s.len], fun j d' h => ?_⟩
  by_cases e : i = j
  · subst e
    by_cases l : i < δ.length
    · rw [List.getElem?_set_self l] at h
      cases h
      exact ⟨v, by rw [List.getElem?_set_self (by rw [s.len]; exact l)], r⟩
    · rw [List.getElem?_eq_none (by simpa using l)] at h; cases h
  · rw [List.getElem?_set_ne e] at h
    obtain ⟨w, h1, h2⟩ := s.at_ j d' h
    exact ⟨w, by rw [List.getElem?_set_ne e]; exact h1, h2⟩
theorem Lk.dom (l : Lk K R η H) {a : Addr} (h : η a ≠ none) : H a ≠ none := by
  cases e : η a with
  | none => exact absurd e h
  | some m =>
    have := l.m a m e
    cases m with
    | lst ds => obtain ⟨xs, q, _⟩ := this; rw [q]; simp
    | ins C ns ds => obtain ⟨dx, fs, q, _⟩ := this; rw [q]; simp
    | dct ks ds => obtain ⟨kvs, q, _⟩ := this; rw [q]; simp
theorem Lk.free (l : Lk K R η H) {p : Addr} (h : H p = none) : η p = none := by
  cases e : η p with
  | none => rfl
  | some m => exact absurd h (l.dom (by rw [e]; simp))
/-- the mutable objects as they are, the rest goes on -/
theorem MOk.up {a : Addr} {m : M} (h : MOk K R η H a m) (e : Ext η H η' H') (q : ∀ o, H a = some o → H' a = some o) : MOk K R η' H' a m := by
  cases m with
  | lst ds => obtain ⟨xs, a, b⟩ := h; exact ⟨xs, q _ a, b.up e⟩
  | ins C ns ds => obtain ⟨dx, fs, a, b, c⟩ := h; exact ⟨dx, fs, q _ a, b, c.up e⟩
  | dct ks ds => obtain ⟨kvs, a, b, c⟩ := h; exact ⟨kvs, q _ a, b, c.up e⟩
theorem Lk.ex (l : Lk K R η H) (h : ∀ a o, H a = some o → H' a = some o) : Lk K R η H' := ⟨fun a m e => (l.m a m e).up (Ext.ex h) (h a), fun a ra => by
  obtain ⟨h1, h2⟩ := l.r a ra
  refine ⟨?_, h2⟩
  cases q : H a with
  | none => exact absurd q h1
  | some o => rw [h a o q]; simp, fun P q t => (l.tb P q t).go fun a o e n r => ⟨h a o e, n, r⟩⟩
theorem Lk.nr (l : Lk K R η H) {p : Addr} (h : H p = none) : ¬ R p := fun z => (l.r p z).1 h
theorem Lk.nrm (l : Lk K R η H) {p : Addr} (h : η p ≠ none) : ¬ R p := fun z => h (l.r p z).2
theorem new_ex {p : Addr} {o : HO} (h : H p = none) : ∀ a u, H a = some u → upd H p o a = some u := fun a u e => by rw [upd_ne (ne_of_none e h)]; exact e
theorem Lk.new {p : Addr} {o : HO} (l : Lk K R η H) (h : H p = none) : Lk K R η (upd H p o) := l.ex (new_ex h)
/-- a new mutable object -/
theorem Ext.newM {p : Addr} {o : HO} {m : M} (h : H p = none) : Ext η H (eup η p m) (upd H p o) := by
  refine ⟨fun a u _ e => .inl (new_ex h a u e), fun a q => ?_⟩
  by_cases e : a = p
  · subst e; exact .inr h
  · rw [eup_ne e] at q; exact .inl q
theorem Lk.newM {p : Addr} {o : HO} {m : M} (l : Lk K R η H) (h : H p = none) (r : MOk K R (eup η p m) (upd H p o) p m) : Lk K R (eup η p m) (upd H p o) := by
  refine ⟨fun a u e => ?_, fun a ra => ?_, fun P q t => (l.tb P q t).go fun a u e n r => ⟨new_ex h a u e, by rw [eup_ne (ne_of_none e h)]; exact n, r⟩⟩
  · by_cases q : a = p
    · subst q; rw [eup_same] at e; cases e; exact r
    · rw [eup_ne q] at e
      exact (l.m a u e).up (Ext.newM h) (new_ex h a)
  · have ne : a ≠ p := by rintro rfl; exact l.nr h ra
    rw [upd_ne ne, eup_ne ne]
    exact l.r a ra
/-- a mutable object is written -/
theorem Ext.wr {p : Addr} {o : HO} {m : M} (h : η p ≠ none) : Ext η H (eup η p m) (upd H p o) := by
  refine ⟨fun a u n e => .inl ?_, fun a q => ?_⟩
  · rw [upd_ne (by rintro rfl; exact h n)]; exact e
  · by_cases e : a = p
    · subst e; exact .inl h
    · rw [eup_ne e] at q; exact .inl q
theorem Lk.wr {p : Addr} {o : HO} {m : M} (l : Lk K R η H) (h : η p ≠ none) (r : MOk K R (eup η p m) (upd H p o) p m) : Lk K R (eup η p m) (upd H p o) := by
  refine ⟨fun a u e => ?_, fun a ra => ?_, fun P q t => (l.tb P q t).go fun a u e n r => by have ne : a ≠ p := (by rintro rfl; exact h n); exact ⟨by rw [upd_ne ne]; exact e, by rw [eup_ne ne]; exact n, r⟩⟩
  · by_cases q : a = p
    · subst q; rw [eup_same] at e; cases e; exact r
    · rw [eup_ne q] at e
      exact (l.m a u e).up (Ext.wr h) (fun o z => by rw [upd_ne q]; exact z)
  · have ne : a ≠ p := by rintro rfl; exact l.nrm h ra
    rw [upd_ne ne, eup_ne ne]
    exact l.r a ra
/-- one more address is kept back, a new one -/
def rup (R : Addr → Prop) (p : Addr) : Addr → Prop := fun a => a = p ∨ R a
theorem ExOk.back {C d a p : Addr} {fs : List (Str × V)} (x : ExOk R η H C d a fs) (hp : H p = none) (e : Ext η H η H') : ExOk (rup R p) η H' C d a fs := by
  have y := x.up e
  refine ⟨y.at_, y.n, fun z => ?_, y.dat, y.dn, fun z => ?_⟩
  · rcases z with z | z
    · subst z; have := x.at_; rw [hp] at this; cases this
    · exact x.r z
  · rcases z with z | z
    · subst z; have := x.dat; rw [hp] at this; cases this
    · exact x.dr z
theorem ExOk.forth {C d a p : Addr} {fs : List (Str × V)} (x : ExOk (rup R p) η H C d a fs) (e : ∀ a o, a ≠ p → H a = some o → H' a = some o) : ExOk R η H' C d a fs ∧ ExOk (rup R p) η H' C d a fs :=
  ⟨⟨e _ _ (fun z => x.r (.inl z)) x.at_, x.n, fun z => x.r (.inr z), e _ _ (fun z => x.dr (.inl z)) x.dat, x.dn, fun z => x.dr (.inr z)⟩, ⟨e _ _ (fun z => x.r (.inl z)) x.at_, x.n, x.r, e _ _ (fun z => x.dr (.inl z)) x.dat, x.dn, x.dr⟩⟩
end
mutual
theorem Rep.back {K : PySem.W.Frag} {R : Addr → Prop} {η : Eta} {H H' : Hp} {p : Addr} (hp : H p = none) (e : Ext η H η H') : ∀ (d : D) (v : V), Rep K R η H v d → Rep K (rup R p) η H' v d
  | .non, _, h => by cases h; exact .non
  | .bl _, _, h => by cases h; exact .bl _
  | .int _, _, h => by cases h; exact .int _
  | .str _, _, h => by cases h with | str a => exact .str a
  | .ty _, _, h => by cases h; exact .ty _
  | .ref _, _, h => by cases h; exact .ref _
  | .lst ds, _, h => by
    cases h with
    | lst a b r c => exact .lst (e.rd b a).1 b (fun z => by rcases z with z | z; (· subst z; rcases a with a | ⟨o, a⟩ <;> (rw [hp] at a; cases a)); exact r z) (Reps.back hp e ds _ c)
  | .klst ds, _, h => by
    cases h with
    | klst a b r c => exact .klst (e.rd b a).1 b (fun z => by rcases z with z | z; (· subst z; rcases a with a | ⟨o, a⟩ <;> (rw [hp] at a; cases a)); exact r z) (Reps.back hp e ds _ c)
    | klstK a1 a2 a3 a4 a5 a6 c => exact .klstK a1 a2 a3 a4 a5 a6 (Reps.back hp e ds _ c)
  | .tup ds, _, h => by
    cases h with
    | tup a b r c => exact .tup (e.rd b a).1 b (fun z => by rcases z with z | z; (· subst z; rcases a with a | ⟨o, a⟩ <;> (rw [hp] at a; cases a)); exact r z) (Reps.back hp e ds _ c)
    | tupK a1 a2 a3 a4 a5 c => exact .tupK a1 a2 a3 a4 a5 (Reps.back hp e ds _ c)
  | .obj C ns ds, _, h => by
    cases h with
    | obj a b r c d => exact .obj (e.keepN _ _ b a) b (fun z => by rcases z with z | z; (· subst z; rw [hp] at a; cases a); exact r z) c (Reps.back hp e ds _ d)
  | .exc C ns ds, _, h => by
    cases h with
    | exc x c d => exact .exc (x.back hp e) c (Reps.back hp e ds _ d)
  | .dct ks ds, _, h => by
    cases h with
    | dct a b r c d => exact .dct (e.keepN _ _ b a) b (fun z => by rcases z with z | z; (· subst z; rw [hp] at a; cases a); exact r z) c (Reps.back hp e ds _ d)
theorem Reps.back {K : PySem.W.Frag} {R : Addr → Prop} {η : Eta} {H H' : Hp} {p : Addr} (hp : H p = none) (e : Ext η H η H') : ∀ (ds : List D) (vs : List V), Reps K R η H vs ds → Reps K (rup R p) η H' vs ds
  | [], _, h => by cases h; exact .nil
  | d :: ds, _, h => by
    cases h with
    | cons a b => exact .cons (Rep.back hp e d _ a) (Reps.back hp e ds _ b)
end
mutual
/-- what is kept back may change, and be set free -/
theorem Rep.forth {K : PySem.W.Frag} {R : Addr → Prop} {η : Eta} {H H' : Hp} {p : Addr} (e : ∀ a o, a ≠ p → H a = some o → H' a = some o) : ∀ (d : D) (v : V), Rep K (rup R p) η H v d → Rep K R η H' v d ∧ Rep K (rup R p) η H' v d
  | .non, _, h => by cases h; exact ⟨.non, .non⟩
  | .bl _, _, h => by cases h; exact ⟨.bl _, .bl _⟩
  | .int _, _, h => by cases h; exact ⟨.int _, .int _⟩
  | .str _, _, h => by cases h with | str a => exact ⟨.str a, .str a⟩
  | .ty _, _, h => by cases h; exact ⟨.ty _, .ty _⟩
  | .ref _, _, h => by cases h; exact ⟨.ref _, .ref _⟩
  | .lst ds, _, h => by
    cases h with
    | @lst a xs _ q b r c =>
      have q' : Rd H' a (.lst xs) := by rcases q with q | ⟨o, q⟩; exact .inl (e _ _ (fun z => r (.inl z)) q); exact .inr ⟨o, e _ _ (fun z => r (.inl z)) q⟩
      exact ⟨.lst q' b (fun z => r (.inr z)) (Reps.forth e ds _ c).1, .lst q' b r (Reps.forth e ds _ c).2⟩
  | .klst ds, _, h => by
    cases h with
    | @klst a xs _ q b r c =>
      have q' : Rd H' a (.lst xs) := by rcases q with q | ⟨o, q⟩; exact .inl (e _ _ (fun z => r (.inl z)) q); exact .inr ⟨o, e _ _ (fun z => r (.inl z)) q⟩
      exact ⟨.klst q' b (fun z => r (.inr z)) (Reps.forth e ds _ c).1, .klst q' b r (Reps.forth e ds _ c).2⟩
    | klstK a1 a2 a3 a4 a5 a6 c => exact ⟨.klstK a1 a2 a3 a4 a5 a6 (Reps.forth e ds _ c).1, .klstK a1 a2 a3 a4 a5 a6 (Reps.forth e ds _ c).2⟩
  | .tup ds, _, h => by
    cases h with
    | @tup a xs _ q b r c =>
      have q' : Rd H' a (.tup xs) := by rcases q with q | ⟨o, q⟩; exact .inl (e _ _ (fun z => r (.inl z)) q); exact .inr ⟨o, e _ _ (fun z => r (.inl z)) q⟩
      exact ⟨.tup q' b (fun z => r (.inr z)) (Reps.forth e ds _ c).1, .tup q' b r (Reps.forth e ds _ c).2⟩
    | tupK a1 a2 a3 a4 a5 c => exact ⟨.tupK a1 a2 a3 a4 a5 (Reps.forth e ds _ c).1, .tupK a1 a2 a3 a4 a5 (Reps.forth e ds _ c).2⟩
  | .obj C ns ds, _, h => by
    cases h with
    | obj q b r c d => exact ⟨.obj (e _ _ (fun z => r (.inl z)) q) b (fun z => r (.inr z)) c (Reps.forth e ds _ d).1, .obj (e _ _ (fun z => r (.inl z)) q) b r c (Reps.forth e ds _ d).2⟩
  | .exc C ns ds, _, h => by
    cases h with
    | exc x c d => exact ⟨.exc (x.forth e).1 c (Reps.forth e ds _ d).1, .exc (x.forth e).2 c (Reps.forth e ds _ d).2⟩
  | .dct ks ds, _, h => by
    cases h with
    | dct q b r c d => exact ⟨.dct (e _ _ (fun z => r (.inl z)) q) b (fun z => r (.inr z)) c (Reps.forth e ds _ d).1, .dct (e _ _ (fun z => r (.inl z)) q) b r c (Reps.forth e ds _ d).2⟩
theorem Reps.forth {K : PySem.W.Frag} {R : Addr → Prop} {η : Eta} {H H' : Hp} {p : Addr} (e : ∀ a o, a ≠ p → H a = some o → H' a = some o) : ∀ (ds : List D) (vs : List V), Reps K (rup R p) η H vs ds → Reps K R η H' vs ds ∧ Reps K (rup R p) η H' vs ds
  | [], _, h => by cases h; exact ⟨.nil, .nil⟩
  | d :: ds, _, h => by
    cases h with
    | cons a b => exact ⟨.cons (Rep.forth e d _ a).1 (Reps.forth e ds _ b).1, .cons (Rep.forth e d _ a).2 (Reps.forth e ds _ b).2⟩
end
section
variable {K : PySem.W.Frag} {R : Addr → Prop} {η : Eta} {H H' : Hp} {p : Addr} {δ : DSt} {σ : L2.St}
theorem MOk.back {a : Addr} {m : M} (hp : H p = none) (e : Ext η H η H') (k : ∀ o, H a = some o → H' a = some o) (h : MOk K R η H a m) : MOk K (rup R p) η H' a m := by
  cases m with
  | lst ds => obtain ⟨xs, a, b⟩ := h; exact ⟨xs, k _ a, Reps.back hp e _ _ b⟩
  | ins C ns ds => obtain ⟨dx, fs, a, b, c⟩ := h; exact ⟨dx, fs, k _ a, b, Reps.back hp e _ _ c⟩
  | dct ks ds => obtain ⟨kvs, a, b, c⟩ := h; exact ⟨kvs, k _ a, b, Reps.back hp e _ _ c⟩
theorem MOk.forth {a : Addr} {m : M} (e : ∀ a o, a ≠ p → H a = some o → H' a = some o) (ne : a ≠ p) (h : MOk K (rup R p) η H a m) : MOk K R η H' a m ∧ MOk K (rup R p) η H' a m := by
  cases m with
  | lst ds => obtain ⟨xs, a, b⟩ := h; exact ⟨⟨xs, e _ _ ne a, (Reps.forth e _ _ b).1⟩, ⟨xs, e _ _ ne a, (Reps.forth e _ _ b).2⟩⟩
  | ins C ns ds => obtain ⟨dx, fs, a, b, c⟩ := h; exact ⟨⟨dx, fs, e _ _ ne a, b, (Reps.forth e _ _ c).1⟩, ⟨dx, fs, e _ _ ne a, b, (Reps.forth e _ _ c).2⟩⟩
  | dct ks ds => obtain ⟨kvs, a, b, c⟩ := h; exact ⟨⟨kvs, e _ _ ne a, b, (Reps.forth e _ _ c).1⟩, ⟨kvs, e _ _ ne a, b, (Reps.forth e _ _ c).2⟩⟩
/-- a new object is laid and kept back -/
theorem Lk.back {o : HO} (l : Lk K R η H) (hp : H p = none) : Lk K (rup R p) η (upd H p o) := by
  refine ⟨fun a m e => (l.m a m e).back hp (Ext.new hp) (new_ex hp a), fun a ra => ?_, fun P q t => (l.tb P q t).go fun a u e n r => ⟨new_ex hp a u e, n, fun z => by rcases z with z | z; (· subst z; rw [hp] at e; cases e); exact r z⟩⟩
  rcases ra with rfl | ra
  · exact ⟨by rw [upd_same]; simp, l.free hp⟩
  · have ne : a ≠ p := by rintro rfl; exact l.nr hp ra
    rw [upd_ne ne]
    exact l.r a ra
theorem Sl.back {o : HO} (s : Sl K R η H δ σ) (hp : H p = none) : Sl K (rup R p) η (upd H p o) δ σ :=
  ⟨s.len, fun i d h => let ⟨v, a, b⟩ := s.at_ i d h; ⟨v, a, Rep.back hp (Ext.new hp) _ _ b⟩⟩
theorem ne_ex {o : HO} : ∀ a u, a ≠ p → H a = some u → upd H p o a = some u := fun a u ne e => by rw [upd_ne ne]; exact e
/-- what is kept back is written -/
theorem Lk.put {o : HO} (l : Lk K (rup R p) η H) : Lk K (rup R p) η (upd H p o) := by
  refine ⟨fun a m e => ((l.m a m e).forth ne_ex (by rintro rfl; rw [(l.r a (.inl rfl)).2] at e; cases e)).2, fun a ra => ?_, fun P q t => (l.tb P q t).go fun a u e n r => ⟨ne_ex a u (fun z => r (.inl z)) e, n, r⟩⟩
  by_cases ne : a = p
  · subst ne; exact ⟨by rw [upd_same]; simp, (l.r a ra).2⟩
  · rw [upd_ne ne]; exact l.r a ra
theorem Sl.put {o : HO} (s : Sl K (rup R p) η H δ σ) : Sl K (rup R p) η (upd H p o) δ σ := ⟨s.len, fun i d h => let ⟨v, a, b⟩ := s.at_ i d h; ⟨v, a, (Rep.forth ne_ex _ _ b).2⟩⟩
/-- it is set free -/
theorem Lk.forth (l : Lk K (rup R p) η H) : Lk K R η H := ⟨fun a m e => ((l.m a m e).forth (fun _ _ _ h => h) (by rintro rfl; rw [(l.r a (.inl rfl)).2] at e; cases e)).1, fun a ra => l.r a (.inr ra), fun P q t => (l.tb P q t).go fun a u e n r => ⟨e, n, fun z => r (.inr z)⟩⟩
theorem Sl.forth (s : Sl K (rup R p) η H δ σ) : Sl K R η H δ σ := ⟨s.len, fun i d h => let ⟨v, a, b⟩ := s.at_ i d h; ⟨v, a, (Rep.forth (fun _ _ _ h => h) _ _ b).1⟩⟩
end
end DL
end
section
set_option Elab.async false
set_option linter.all false
set_option autoImplicit false
set_option maxRecDepth 100000
set_option maxHeartbeats 4000000
namespace DL
open PySem PySem.Spec PyProof.Rows L2
abbrev Xk := D → Eta → Prop
abbrev DK := D → Eta → Prop
abbrev DE := Xk → DSt → Eta → DK → Prop
abbrev DT := Xk → DSt → Eta → (Bool → Eta → Prop) → Prop
abbrev DA := Xk → DSt → Eta → (List D → Eta → Prop) → Prop
abbrev DO := Xk → DSt → Eta → (Option Int → Eta → Prop) → Prop
/-- an exception as data: an instance of its class with the attributes of its own dict -/
def XRep (K : PySem.W.Frag) (R : Addr → Prop) (η : Eta) (H : Hp) (C : Addr) (od : Option Addr) (x : D) : Prop :=
  ∃ ns ds d fs, x = .exc C ns ds ∧ od = some d ∧ H d = some (.xd fs) ∧ η d = none ∧ ¬ R d ∧ fs.map (·.1) = ns ∧ Reps K R η H (fs.map (·.2)) ds
/-- what follows, over the heap and over data -/
structure Kn (K : PySem.W.Frag) (R : Addr → Prop) (E : XK) (η : Eta) (H : Hp) (Z : Xk) {α β : Type} (Rl : (Addr → Prop) → Eta → Hp → α → β → Prop) (Φ : β → Eta → Prop) (Q : α → Hp → Prop) : Prop where
  ok : ∀ v d H' η', Lk K R η' H' → Ext η H η' H' → Rl R η' H' v d → Φ d η' → Q v H'
  ex : ∀ C od x H' η', Lk K R η' H' → Ext η H η' H' → XRep K R η' H' C od x → Z x η' → E (.ref C) od H'
section
variable {K : PySem.W.Frag} {R : Addr → Prop} {E : XK} {η η1 : Eta} {H H1 : Hp} {Z : Xk} {α β γ ε : Type} {Rl : (Addr → Prop) → Eta → Hp → α → β → Prop} {Φ : β → Eta → Prop} {Q : α → Hp → Prop}
  {Rl' : (Addr → Prop) → Eta → Hp → γ → ε → Prop} {Φ' : ε → Eta → Prop} {Q' : γ → Hp → Prop}
/-- the same exceptions, another end -/
theorem Kn.to (k : Kn K R E η H Z Rl Φ Q) (h : ∀ v d H' η', Lk K R η' H' → Ext η H η' H' → Rl' R η' H' v d → Φ' d η' → Q' v H') : Kn K R E η H Z Rl' Φ' Q' := ⟨h, k.ex⟩
/-- from a later state -/
theorem Kn.at_ (k : Kn K R E η H Z Rl Φ Q) (e : Ext η H η1 H1) : Kn K R E η1 H1 Z Rl Φ Q :=
  ⟨fun v d H' η' l x => k.ok v d H' η' l (e.trans x), fun C od x H' η' l y => k.ex C od x H' η' l (e.trans y)⟩
end
def SoundG (K : PySem.W.Frag) (E : XK) {α β : Type} (Rl : (Addr → Prop) → Eta → Hp → α → β → Prop) (te : L2.St → Hp → (α → Hp → Prop) → Prop) (t : Xk → DSt → Eta → (β → Eta → Prop) → Prop) : Prop :=
  ∀ (R : Addr → Prop) (σ : L2.St) (H : Hp) (δ : DSt) (η : Eta) (Z : Xk) (Φ : β → Eta → Prop) (Q : α → Hp → Prop), Lk K R η H → Sl K R η H δ σ → t Z δ η Φ → Kn K R E η H Z Rl Φ Q → te σ H Q
abbrev REq {α : Type} : (Addr → Prop) → Eta → Hp → α → α → Prop := fun _ _ _ a b => a = b
structure PD (X : Cx) (E : XK) (e : Expr) (te : TE) (t : DE) : Prop where
  pe : PE X e te
  so : SoundG X.K E (Rep X.K) te t
structure PDT (X : Cx) (E : XK) (e : Expr) (tt : TT) (t : DT) : Prop where
  pt : PT X e tt
  so : SoundG X.K E REq tt t
structure PDW (X : Cx) (E : XK) (e : Expr) (tt : TT) (t : DT) : Prop where
  pw : PW X e tt
  so : SoundG X.K E REq tt t
structure PDA (X : Cx) (E : XK) (es : List Expr) (ta : TA) (t : DA) : Prop where
  pa : PA X es ta
  so : SoundG X.K E (Reps X.K) ta t
structure PDO (X : Cx) (E : XK) (e : Option Expr) (to : TO) (t : DO) : Prop where
  po : PO X e to
  so : SoundG X.K E REq to t
section
variable {X : Cx} {E : XK} {a b c e : Expr} {es : List Expr} {ta tb tc te : TE} {da db dc de : DE} {tr : TA} {dr : DA} {pos : Pos}
def dVar (i : Nat) : DE := fun _ δ η Φ => ∃ d, δ[i]? = some (some d) ∧ Φ d η
def dC (d : D) : DE := fun _ _ η Φ => Φ d η
theorem so_var {K : PySem.W.Frag} {i : Nat} : SoundG K E (Rep K) (tVar i) (dVar i) := fun R σ H δ η Z Φ Q l s h k => by
  obtain ⟨d, e, h⟩ := h
  obtain ⟨v, hv, r⟩ := s.at_ i d e
  exact ⟨v, hv, k.ok v d H η l (Ext.refl _ _) r h⟩
theorem so_c {K : PySem.W.Frag} {v : V} {d : D} (r : ∀ R η H, Rep K R η H v d) : SoundG K E (Rep K) (tC v) (dC d) := fun R σ H δ η Z Φ Q l s h k => k.ok v d H η l (Ext.refl _ _) (r R η H) h
theorem pd_var (i : Nat) {x : Str} {pos : Pos} (hN : X.N[i]? = some x := by rfl) (hv : Vis X.env.scope x := by first | exact Or.inl rfl | exact Or.inr (Or.inl rfl) | exact Or.inr (Or.inr rfl)) (hd : (x == ("__debug__" : Str)) = false := by decide)
    (hcd : (x == ("__classdict__" : Str)) = false := by decide) : PD X E (.Name x pos) (tVar i) (dVar i) := ⟨pe_var hN hv hd hcd, so_var⟩
theorem pd_int {i j pos} : PD X E (.Constant (.int i) j pos) (tC (.int i)) (dC (.int i)) := ⟨pe_int, so_c fun _ _ _ => .int i⟩
theorem pd_bl {i j pos} : PD X E (.Constant (.bool i) j pos) (tC (.bl i)) (dC (.bl i)) := ⟨pe_bl, so_c fun _ _ _ => .bl i⟩
theorem pd_non {j pos} : PD X E (.Constant .none j pos) (tC .non) (dC .non) := ⟨pe_non, so_c fun _ _ _ => .non⟩
theorem pd_str {x j pos} (h : SOk x) : PD X E (.Constant (.str x) j pos) (tC (.str x)) (dC (.str x)) := ⟨pe_str, so_c fun _ _ _ => .str h⟩
theorem pd_glob {x : Str} {v : V} {u : Value} {d : D} {pos : Pos} (hg : Gl X x) (hm : X.mg x = some u) (r : RelV v u) (rd : ∀ R η H, Rep X.K R η H v d) (hd : (x == ("__debug__" : Str)) = false := by decide) : PD X E (.Name x pos) (tC v) (dC d) := ⟨pe_glob hg hm r hd, so_c rd⟩
/-- a built-in type's name as a value -/
theorem pd_type {x : Str} {T : String} {pos : Pos} (hg : Gl X x) (hm : X.mg x = none) (hv : bootBuiltins x = some (.type T)) (hn : x ≠ "__name__" := by decide) (hd : (x == ("__debug__" : Str)) = false := by decide) : PD X E (.Name x pos) (tC (.ty T)) (dC (.ty T)) :=
  ⟨pe_bltn hg hm hv rfl hn hd, so_c fun _ _ _ => .ty T⟩
abbrev DR2 := D → D → Eta → DK → Prop
def SoundR2 (K : PySem.W.Frag) (r : R2) (o : DR2) : Prop := ∀ (R : Addr → Prop) (η : Eta) (H : Hp) (x y : V) (dx dy : D) (Φ : DK) (Q : VK), Lk K R η H → Rep K R η H x dx → Rep K R η H y dy → o dx dy η Φ →
  (∀ v d H' η', Lk K R η' H' → Ext η H η' H' → Rep K R η' H' v d → Φ d η' → Q v H') → r x y H Q
structure OpD (X : Cx) (f : Value → Value → Sem Value) (r : R2) (o : DR2) : Prop where
  op : OpR X f r
  so : SoundR2 X.K r o
structure IxD (X : Cx) (r : R2) (o : DR2) : Prop where
  op : IxR X r
  so : SoundR2 X.K r o
def dOp (o : DR2) (da db : DE) : DE := fun Z δ η Φ => da Z δ η fun x η1 => db Z δ η1 fun y η2 => o x y η2 Φ
theorem so_op {K : PySem.W.Frag} {r : R2} {o : DR2} (ho : SoundR2 K r o) (ha : SoundG K E (Rep K) ta da) (hb : SoundG K E (Rep K) tb db) : SoundG K E (Rep K) (tOp r ta tb) (dOp o da db) := fun R σ H δ η Z Φ Q l s h k => by
  refine ha R σ H δ η Z _ _ l s h (k.to fun v1 d1 H1 η1 l1 e1 r1 h1 => ?_)
  refine hb R σ H1 δ η1 Z _ _ l1 (s.up e1) h1 ((k.at_ e1).to fun v2 d2 H2 η2 l2 e2 r2 h2 => ?_)
  exact ho R η2 H2 v1 v2 d1 d2 Φ Q l2 (r1.up e2) r2 h2 fun v d H' η' l' e' r' h' => k.ok v d H' η' l' ((e1.trans e2).trans e') r' h'
theorem pd_op {op : Operator} {r : R2} {o : DR2} (ho : OpD X (binaryOp op) r o) (ha : PD X E a ta da) (hb : PD X E b tb db) : PD X E (.BinOp a op b pos) (tOp r ta tb) (dOp o da db) := ⟨pe_op ho.op ha.pe hb.pe, so_op ho.so ha.so hb.so⟩
theorem pd_cmp {op : CmpOp} {r : R2} {o : DR2} (ho : OpD X (compareOp op) r o) (ha : PD X E a ta da) (hb : PD X E b tb db) (hm : behindInMarks op b = false) : PD X E (.Compare a [op] [b] pos) (tOp r ta tb) (dOp o da db) := ⟨pe_cmpR ho.op ha.pe hb.pe hm, so_op ho.so ha.so hb.so⟩
theorem pd_ix {r : R2} {o : DR2} (ho : IxD X r o) (ha : PD X E a ta da) (hb : PD X E b tb db) (hs : PlainIx b) : PD X E (.Subscript a b pos) (tOp r ta tb) (dOp o da db) := ⟨pe_ix ho.op ha.pe hb.pe hs, so_op ho.so ha.so hb.so⟩
/-- a value as a test -/
def dTest (t : DE) : DT := fun Z δ η Φ => t Z δ η fun d η1 => ∃ k, d = .bl k ∧ Φ k η1
theorem so_test {K : PySem.W.Frag} (ha : SoundG K E (Rep K) ta da) : SoundG K E REq (tTest ta) (dTest da) := fun R σ H δ η Z Φ Q l s h k => by
  refine ha R σ H δ η Z _ _ l s h (k.to fun v1 d1 H1 η1 l1 e1 r1 h1 => ?_)
  obtain ⟨c, rfl, h1⟩ := h1
  cases r1
  exact ⟨c, rfl, k.ok c c H1 η1 l1 e1 rfl h1⟩
theorem so_tB {K : PySem.W.Frag} (ha : SoundG K E (Rep K) ta da) : SoundG K E REq (tB ta) (dTest da) := so_test ha
theorem pdt_cmp {op : CmpOp} {r : R2} {o : DR2} (ho : OpD X (compareOp op) r o) (ha : PD X E a ta da) (hb : PD X E b tb db) (hm : behindInMarks op b = false) : PDT X E (.Compare a [op] [b] pos) (tTest (tOp r ta tb)) (dTest (dOp o da db)) := ⟨pt_cmpR ho.op ha.pe hb.pe hm, so_test (so_op ho.so ha.so hb.so)⟩
theorem pdt_val (h : PD X E e te de) (he : ∀ whole, isTrue e X.env whole = (do let v ← whole; standAt e.pos; holding [v] (truthy v)) := by intro _; rfl) : PDT X E e (tB te) (dTest de) := ⟨pt_val h.pe he, so_tB h.so⟩
/-- is None, is not None -/
def rIsNU : R2 := fun x y H Q => y = .non ∧ Q (.bl (decide (x = .non))) H
def rNotNU : R2 := fun x y H Q => y = .non ∧ Q (.bl (!decide (x = .non))) H
def isNonD : D → Bool | .non => true | _ => false
def oIsN : DR2 := fun x y η Φ => y = .non ∧ Φ (.bl (isNonD x)) η
def oNotN : DR2 := fun x y η Φ => y = .non ∧ Φ (.bl (!isNonD x)) η
theorem isNon_rep {K : PySem.W.Frag} {R : Addr → Prop} {η : Eta} {H : Hp} {x : V} {d : D} (r : Rep K R η H x d) : decide (x = .non) = isNonD d := by
  cases r <;> simp [isNonD]
theorem od_isN : OpD X (compareOp .Is) rIsNU oIsN := ⟨op_isN, fun R η H x y dx dy Φ Q l rx ry h k => by
  obtain ⟨rfl, h⟩ := h
  cases ry
  exact ⟨rfl, k _ _ H η l (Ext.refl _ _) (.bl _) (by rw [isNon_rep rx]; exact h)⟩⟩
theorem od_notN : OpD X (compareOp .IsNot) rNotNU oNotN := ⟨op_notN, fun R η H x y dx dy Φ Q l rx ry h k => by
  obtain ⟨rfl, h⟩ := h
  cases ry
  exact ⟨rfl, k _ _ H η l (Ext.refl _ _) (.bl _) (by rw [isNon_rep rx]; exact h)⟩⟩
def dAnd (t u : DT) : DT := fun Z δ η Φ => t Z δ η fun c η1 => if c = true then u Z δ η1 Φ else Φ false η1
def dOr (t u : DT) : DT := fun Z δ η Φ => t Z δ η fun c η1 => if c = true then Φ true η1 else u Z δ η1 Φ
def dNot (t : DT) : DT := fun Z δ η Φ => t Z δ η fun c η1 => Φ (!c) η1
variable {tt tu : TT} {dt du : DT} {rest : List Expr}
theorem pdw_and1 (ha : PDT X E a tt dt) : PDW X E (.BoolOp .And [a] pos) tt dt := ⟨pw_and1 ha.pt, ha.so⟩
theorem pdw_or1 (ha : PDT X E a tt dt) : PDW X E (.BoolOp .Or [a] pos) tt dt := ⟨pw_or1 ha.pt, ha.so⟩
theorem pdw_and (ha : PDT X E a tt dt) (hb : PDW X E (.BoolOp .And (b :: rest) pos) tu du) : PDW X E (.BoolOp .And (a :: b :: rest) pos) (tAnd tt tu) (dAnd dt du) := ⟨pw_and ha.pt hb.pw, fun R σ H δ η Z Φ Q l s h k => by
  refine ha.so R σ H δ η Z _ _ l s h (k.to fun v1 d1 H1 η1 l1 e1 r1 h1 => ?_)
  obtain rfl : v1 = d1 := r1
  cases v1 with
  | true => exact hb.so R σ H1 δ η1 Z Φ Q l1 (s.up e1) h1 (k.at_ e1)
  | false => exact k.ok false false H1 η1 l1 e1 rfl h1⟩
theorem pdw_or (ha : PDT X E a tt dt) (hb : PDW X E (.BoolOp .Or (b :: rest) pos) tu du) : PDW X E (.BoolOp .Or (a :: b :: rest) pos) (tOr tt tu) (dOr dt du) := ⟨pw_or ha.pt hb.pw, fun R σ H δ η Z Φ Q l s h k => by
  refine ha.so R σ H δ η Z _ _ l s h (k.to fun v1 d1 H1 η1 l1 e1 r1 h1 => ?_)
  obtain rfl : v1 = d1 := r1
  cases v1 with
  | true => exact k.ok true true H1 η1 l1 e1 rfl h1
  | false => exact hb.so R σ H1 δ η1 Z Φ Q l1 (s.up e1) h1 (k.at_ e1)⟩
theorem pdt_w (h : PDW X E e tt dt) : PDT X E e tt dt := ⟨h.pw.pt, h.so⟩
theorem pdt_not (ha : PDT X E a tt dt) : PDT X E (.UnaryOp .Not a pos) (tNot tt) (dNot dt) := ⟨pt_not ha.pt, fun R σ H δ η Z Φ Q l s h k => by
  refine ha.so R σ H δ η Z _ _ l s h (k.to fun v1 d1 H1 η1 l1 e1 r1 h1 => ?_)
  obtain rfl : v1 = d1 := r1
  exact k.ok _ _ H1 η1 l1 e1 rfl h1⟩
/-- and, or, not as values (of bools) -/
def dAndV (da db : DE) : DE := fun Z δ η Φ => da Z δ η fun d η1 => ∃ c, d = .bl c ∧ if c = true then db Z δ η1 Φ else Φ (.bl false) η1
def dOrV (da db : DE) : DE := fun Z δ η Φ => da Z δ η fun d η1 => ∃ c, d = .bl c ∧ if c = true then Φ (.bl true) η1 else db Z δ η1 Φ
def dNotV (da : DE) : DE := fun Z δ η Φ => da Z δ η fun d η1 => ∃ c, d = .bl c ∧ Φ (.bl (!c)) η1
theorem pd_one {op} (h : PD X E a ta da) : PD X E (.BoolOp op [a] pos) ta da := ⟨pe_one h.pe, h.so⟩
theorem pd_and (ha : PD X E a ta da) (hb : PD X E (.BoolOp .And (b :: rest) pos) tb db) : PD X E (.BoolOp .And (a :: b :: rest) pos) (tAndV ta tb) (dAndV da db) := ⟨pe_and ha.pe hb.pe, fun R σ H δ η Z Φ Q l s h k => by
  refine ha.so R σ H δ η Z _ _ l s h (k.to fun v1 d1 H1 η1 l1 e1 r1 h1 => ?_)
  obtain ⟨c, rfl, h1⟩ := h1
  cases r1
  refine ⟨c, rfl, ?_⟩
  cases c with
  | true => exact hb.so R σ H1 δ η1 Z Φ Q l1 (s.up e1) h1 (k.at_ e1)
  | false => exact k.ok _ _ H1 η1 l1 e1 (.bl false) h1⟩
theorem pd_or (ha : PD X E a ta da) (hb : PD X E (.BoolOp .Or (b :: rest) pos) tb db) : PD X E (.BoolOp .Or (a :: b :: rest) pos) (tOrV ta tb) (dOrV da db) := ⟨pe_or ha.pe hb.pe, fun R σ H δ η Z Φ Q l s h k => by
  refine ha.so R σ H δ η Z _ _ l s h (k.to fun v1 d1 H1 η1 l1 e1 r1 h1 => ?_)
  obtain ⟨c, rfl, h1⟩ := h1
  cases r1
  refine ⟨c, rfl, ?_⟩
  cases c with
  | true => exact k.ok _ _ H1 η1 l1 e1 (.bl true) h1
  | false => exact hb.so R σ H1 δ η1 Z Φ Q l1 (s.up e1) h1 (k.at_ e1)⟩
theorem pd_not (ha : PD X E a ta da) : PD X E (.UnaryOp .Not a pos) (tNotV ta) (dNotV da) := ⟨pe_not ha.pe, fun R σ H δ η Z Φ Q l s h k => by
  refine ha.so R σ H δ η Z _ _ l s h (k.to fun v1 d1 H1 η1 l1 e1 r1 h1 => ?_)
  obtain ⟨c, rfl, h1⟩ := h1
  cases r1
  exact ⟨c, rfl, k.ok _ _ H1 η1 l1 e1 (.bl _) h1⟩⟩
def dIf (t : DT) (da db : DE) : DE := fun Z δ η Φ => t Z δ η fun c η1 => if c = true then da Z δ η1 Φ else db Z δ η1 Φ
theorem pd_ifExp (hc : PDT X E c tt dt) (ha : PD X E a ta da) (hb : PD X E b tb db) : PD X E (.IfExp c a b pos) (tIf tt ta tb) (dIf dt da db) := ⟨pe_ifExp hc.pt ha.pe hb.pe, fun R σ H δ η Z Φ Q l s h k => by
  refine hc.so R σ H δ η Z _ _ l s h (k.to fun v1 d1 H1 η1 l1 e1 r1 h1 => ?_)
  obtain rfl : v1 = d1 := r1
  cases v1 with
  | true => exact ha.so R σ H1 δ η1 Z Φ Q l1 (s.up e1) h1 (k.at_ e1)
  | false => exact hb.so R σ H1 δ η1 Z Φ Q l1 (s.up e1) h1 (k.at_ e1)⟩
/-- a op1 b op2 c -/
def dChain (o o' : DR2) (da db dc : DE) : DE := fun Z δ η Φ => da Z δ η fun x η1 => db Z δ η1 fun y η2 => o x y η2 fun z η3 => ∃ k, z = .bl k ∧ if k = true then dc Z δ η3 fun w η4 => o' y w η4 Φ else Φ (.bl false) η3
theorem so_chain {K : PySem.W.Frag} {r r' : R2} {o o' : DR2} (ho : SoundR2 K r o) (ho' : SoundR2 K r' o') (ha : SoundG K E (Rep K) ta da) (hb : SoundG K E (Rep K) tb db) (hc : SoundG K E (Rep K) tc dc) : SoundG K E (Rep K) (tChain r r' ta tb tc) (dChain o o' da db dc) := fun R σ H δ η Z Φ Q l s h k => by
  refine ha R σ H δ η Z _ _ l s h (k.to fun v1 d1 H1 η1 l1 e1 r1 h1 => ?_)
  refine hb R σ H1 δ η1 Z _ _ l1 (s.up e1) h1 ((k.at_ e1).to fun v2 d2 H2 η2 l2 e2 r2 h2 => ?_)
  refine ho R η2 H2 v1 v2 d1 d2 _ _ l2 (r1.up e2) r2 h2 fun v3 d3 H3 η3 l3 e3 r3 h3 => ?_
  obtain ⟨c, rfl, h3⟩ := h3
  cases r3
  refine ⟨c, rfl, ?_⟩
  have e13 := (e1.trans e2).trans e3
  cases c with
  | false => exact k.ok _ _ H3 η3 l3 e13 (.bl false) h3
  | true =>
    refine hc R σ H3 δ η3 Z _ _ l3 (s.up e13) h3 ((k.at_ e13).to fun v4 d4 H4 η4 l4 e4 r4 h4 => ?_)
    exact ho' R η4 H4 v2 v4 d2 d4 Φ Q l4 ((r2.up e3).up e4) r4 h4 fun v d H' η' l' e' r' h' => k.ok v d H' η' l' ((e13.trans e4).trans e') r' h'
theorem pd_chain {op op' : CmpOp} {r r' : R2} {o o' : DR2} (ho : OpD X (compareOp op) r o) (ho' : OpD X (compareOp op') r' o') (ha : PD X E a ta da) (hb : PD X E b tb db) (hc : PD X E c tc dc)
    (hm : lastMarks [op, op'] [b, c] = false := by with_unfolding_all rfl) : PD X E (.Compare a [op, op'] [b, c] pos) (tChain r r' ta tb tc) (dChain o o' da db dc) := ⟨pe_chain ho.op ho'.op ha.pe hb.pe hc.pe hm, so_chain ho.so ho'.so ha.so hb.so hc.so⟩
theorem pdt_chain {op op' : CmpOp} {r r' : R2} {o o' : DR2} (ho : OpD X (compareOp op) r o) (ho' : OpD X (compareOp op') r' o') (ha : PD X E a ta da) (hb : PD X E b tb db) (hc : PD X E c tc dc)
    (hm : lastMarks [op, op'] [b, c] = false := by with_unfolding_all rfl) : PDT X E (.Compare a [op, op'] [b, c] pos) (tTest (tChain r r' ta tb tc)) (dTest (dChain o o' da db dc)) := ⟨pt_chain ho.op ho'.op ha.pe hb.pe hc.pe hm, so_test (so_chain ho.so ho'.so ha.so hb.so hc.so)⟩
def dNil : DA := fun _ _ η Φ => Φ [] η
def dCons (de : DE) (dr : DA) : DA := fun Z δ η Φ => de Z δ η fun x η1 => dr Z δ η1 fun xs η2 => Φ (x :: xs) η2
theorem pda_nil : PDA X E [] tNil dNil := ⟨pa_nil, fun R σ H δ η Z Φ Q l s h k => k.ok [] [] H η l (Ext.refl _ _) .nil h⟩
theorem pda_cons (he : PD X E e te de) (hr : PDA X E es tr dr) (hs : starEach (e :: es) X.env = (false, eval e X.env) :: starEach es X.env := by rfl) : PDA X E (e :: es) (tCons te tr) (dCons de dr) := ⟨pa_cons he.pe hr.pa hs, fun R σ H δ η Z Φ Q l s h k => by
  refine he.so R σ H δ η Z _ _ l s h (k.to fun v1 d1 H1 η1 l1 e1 r1 h1 => ?_)
  refine hr.so R σ H1 δ η1 Z _ _ l1 (s.up e1) h1 ((k.at_ e1).to fun v2 d2 H2 η2 l2 e2 r2 h2 => ?_)
  exact k.ok _ _ H2 η2 l2 (e1.trans e2) (.cons (r1.up e2) r2) h2⟩
def dTup (dr : DA) : DE := fun Z δ η Φ => dr Z δ η fun ds η1 => ds.length ≤ sizeLine ∧ Φ (.tup ds) η1
def dLst (dr : DA) : DE := fun Z δ η Φ => dr Z δ η fun ds η1 => ds.length ≤ sizeLine ∧ Φ (.lst ds) η1
/-- a list that will be changed -/
def dLstM (dr : DA) : DE := fun Z δ η Φ => dr Z δ η fun ds η1 => ds.length ≤ sizeLine ∧ ∀ p, η1 p = none → Φ (.ref p) (eup η1 p (.lst ds))
theorem pd_tup {x1} (h : PDA X E es tr dr) : PD X E (.Tuple es x1 pos) (tTup tr) (dTup dr) := ⟨pe_tup h.pa, fun R σ H δ η Z Φ Q l s hw k => by
  refine h.so R σ H δ η Z _ _ l s hw (k.to fun vs ds H1 η1 l1 e1 r1 h1 => ?_)
  refine ⟨by rw [r1.length]; exact h1.1, fun p hp => ?_⟩
  have x := Ext.new (η := η1) (o := .tup vs) hp
  exact k.ok _ _ _ η1 (l1.new hp) (e1.trans x) (.tup (.inl upd_same) (l1.free hp) (l1.nr hp) (r1.up x)) h1.2⟩
theorem pd_lst (h : PDA X E es tr dr) : PD X E (.List es pos) (tLst tr) (dLst dr) := ⟨pe_lst h.pa, fun R σ H δ η Z Φ Q l s hw k => by
  refine h.so R σ H δ η Z _ _ l s hw (k.to fun vs ds H1 η1 l1 e1 r1 h1 => ?_)
  refine ⟨by rw [r1.length]; exact h1.1, fun p hp => ?_⟩
  have x := Ext.new (η := η1) (o := .lst vs) hp
  exact k.ok _ _ _ η1 (l1.new hp) (e1.trans x) (.lst (.inl upd_same) (l1.free hp) (l1.nr hp) (r1.up x)) h1.2⟩
theorem pd_lstM (h : PDA X E es tr dr) : PD X E (.List es pos) (tLst tr) (dLstM dr) := ⟨pe_lst h.pa, fun R σ H δ η Z Φ Q l s hw k => by
  refine h.so R σ H δ η Z _ _ l s hw (k.to fun vs ds H1 η1 l1 e1 r1 h1 => ?_)
  refine ⟨by rw [r1.length]; exact h1.1, fun p hp => ?_⟩
  have x := Ext.newM (η := η1) (o := .lst vs) (m := .lst ds) hp
  exact k.ok _ _ _ _ (l1.newM (m := .lst ds) hp ⟨vs, upd_same, r1.up x⟩) (e1.trans x) (.ref p) (h1.2 p (l1.free hp))⟩
def dNoPart : DO := fun _ _ η Φ => Φ none η
def dPart (de : DE) : DO := fun Z δ η Φ => de Z δ η fun d η1 => ∃ i, d = .int i ∧ Φ (some i) η1
theorem pdo_none : PDO X E none tNoPart dNoPart := ⟨po_none, fun R σ H δ η Z Φ Q l s h k => k.ok _ _ H η l (Ext.refl _ _) rfl h⟩
theorem pdo_some (h : PD X E e te de) : PDO X E (some e) (tPart te) (dPart de) := ⟨po_some h.pe, fun R σ H δ η Z Φ Q l s hw k => by
  refine h.so R σ H δ η Z _ _ l s hw (k.to fun v1 d1 H1 η1 l1 e1 r1 h1 => ?_)
  obtain ⟨i, rfl, h1⟩ := h1
  cases r1
  exact ⟨i, rfl, k.ok _ _ H1 η1 l1 e1 rfl h1⟩⟩
abbrev RSl := V → Option Int → Option Int → Hp → VK → Prop
abbrev DSl := D → Option Int → Option Int → Eta → DK → Prop
structure SlD (X : Cx) (r : RSl) (o : DSl) : Prop where
  op : SlR X r
  so : ∀ (R : Addr → Prop) (η : Eta) (H : Hp) (x : V) (dx : D) (lo hi : Option Int) (Φ : DK) (Q : VK), Lk X.K R η H → Rep X.K R η H x dx → o dx lo hi η Φ → (∀ v d H' η', Lk X.K R η' H' → Ext η H η' H' → Rep X.K R η' H' v d → Φ d η' → Q v H') → r x lo hi H Q
def dSl (o : DSl) (de : DE) (dl dh : DO) : DE := fun Z δ η Φ => de Z δ η fun x η1 => dl Z δ η1 fun lo η2 => dh Z δ η2 fun hi η3 => o x lo hi η3 Φ
variable {lo hi : Option Expr} {tl th : TO} {dl dh : DO} {p2 : Pos}
theorem pd_slice {r : RSl} {o : DSl} (hr : SlD X r o) (he : PD X E e te de) (hl : PDO X E lo tl dl) (hu : PDO X E hi th dh) : PD X E (.Subscript e (.Slice lo hi none p2) pos) (tSl r te tl th) (dSl o de dl dh) := ⟨pe_slice hr.op he.pe hl.po hu.po, fun R σ H δ η Z Φ Q l s h k => by
  refine he.so R σ H δ η Z _ _ l s h (k.to fun v1 d1 H1 η1 l1 e1 r1 h1 => ?_)
  refine hl.so R σ H1 δ η1 Z _ _ l1 (s.up e1) h1 ((k.at_ e1).to fun v2 d2 H2 η2 l2 e2 r2 h2 => ?_)
  obtain rfl : v2 = d2 := r2
  refine hu.so R σ H2 δ η2 Z _ _ l2 ((s.up e1).up e2) h2 ((k.at_ (e1.trans e2)).to fun v3 d3 H3 η3 l3 e3 r3 h3 => ?_)
  obtain rfl : v3 = d3 := r3
  exact hr.so R η3 H3 v1 d1 v2 v3 Φ Q l3 ((r1.up e2).up e3) h3 fun v d H' η' l' e' r' h' => k.ok v d H' η' l' (((e1.trans e2).trans e3).trans e') r' h'⟩
abbrev RCl := List V → Hp → VK → Prop
abbrev DCl := List D → Eta → DK → Prop
structure ClD (X : Cx) (f : Value) (r : RCl) (o : DCl) : Prop where
  op : CallR X f r
  so : ∀ (R : Addr → Prop) (η : Eta) (H : Hp) (xs : List V) (ds : List D) (Φ : DK) (Q : VK), Lk X.K R η H → Reps X.K R η H xs ds → o ds η Φ → (∀ v d H' η', Lk X.K R η' H' → Ext η H η' H' → Rep X.K R η' H' v d → Φ d η' → Q v H') → r xs H Q
def dCB (o : DCl) (dr : DA) : DE := fun Z δ η Φ => dr Z δ η fun ds η1 => o ds η1 Φ
theorem so_cb {r : RCl} {o : DCl} {f : Value} (hc : ClD X f r o) (ha : PDA X E es tr dr) : SoundG X.K E (Rep X.K) (tCB r tr) (dCB o dr) := fun R σ H δ η Z Φ Q l s h k => by
  refine ha.so R σ H δ η Z _ _ l s h (k.to fun v1 d1 H1 η1 l1 e1 r1 h1 => ?_)
  exact hc.so R η1 H1 v1 d1 Φ Q l1 r1 h1 fun v d H' η' l' e' r' h' => k.ok v d H' η' l' (e1.trans e') r' h'
variable {x : Str} {p : Pos} {r : RCl} {o : DCl} {id T : String}
theorem pd_callB (hc : ClD X (.builtin id) r o) (hg : Gl X x) (hm : X.mg x = none) (hv : bootBuiltins x = some (.builtin id)) (ha : PDA X E (e :: es) tr dr) (hn : x ≠ "__name__" := by decide) (hdb : (x == ("__debug__" : Str)) = false := by decide)
    (he : starEach (e :: es) X.env = (false, eval e X.env) :: starEach es X.env := by rfl) (hpl : (backTo pos (starEach es X.env)).any (·.1) = false := by rfl) : PD X E (.Call (.Name x p) (e :: es) [] pos) (tCB r tr) (dCB o dr) :=
  ⟨pe_callB hc.op hg hm hv ha.pa hn hdb he hpl, so_cb hc ha⟩
theorem pd_callTy (hc : ClD X (.type T) r o) (hg : Gl X x) (hm : X.mg x = none) (hv : bootBuiltins x = some (.type T)) (ha : PDA X E (e :: es) tr dr) (hn : x ≠ "__name__" := by decide) (hdb : (x == ("__debug__" : Str)) = false := by decide)
    (he : starEach (e :: es) X.env = (false, eval e X.env) :: starEach es X.env := by rfl) (hpl : (backTo pos (starEach es X.env)).any (·.1) = false := by rfl) : PD X E (.Call (.Name x p) (e :: es) [] pos) (tCB r tr) (dCB o dr) :=
  ⟨pe_callTy hc.op hg hm hv ha.pa hn hdb he hpl, so_cb hc ha⟩
end
end DL
end
section
set_option Elab.async false
set_option linter.all false
set_option autoImplicit false
set_option maxRecDepth 100000
set_option maxHeartbeats 4000000
namespace DL
open PySem PySem.Spec PyProof.Rows L2
structure DEnds where
  nx : DSt → Eta → Prop
  rt : DK
  bk : DSt → Eta → Prop
  ct : DSt → Eta → Prop
abbrev DS := Xk → DEnds → DSt → Eta → Prop
structure SK (K : PySem.W.Frag) (R : Addr → Prop) (E : XK) (η : Eta) (H : Hp) (Z : Xk) (P : DEnds) (D : Ends) : Prop where
  nx : ∀ σ' H' δ' η', Lk K R η' H' → Ext η H η' H' → Sl K R η' H' δ' σ' → P.nx δ' η' → D.nx σ' H'
  rt : ∀ v d H' η', Lk K R η' H' → Ext η H η' H' → Rep K R η' H' v d → P.rt d η' → D.rt v H'
  bk : ∀ σ' H' δ' η', Lk K R η' H' → Ext η H η' H' → Sl K R η' H' δ' σ' → P.bk δ' η' → D.bk σ' H'
  ct : ∀ σ' H' δ' η', Lk K R η' H' → Ext η H η' H' → Sl K R η' H' δ' σ' → P.ct δ' η' → D.ct σ' H'
  ex : ∀ C od x H' η', Lk K R η' H' → Ext η H η' H' → XRep K R η' H' C od x → Z x η' → E (.ref C) od H'
theorem SK.at_ {K : PySem.W.Frag} {R : Addr → Prop} {E : XK} {η η1 : Eta} {H H1 : Hp} {Z : Xk} {P : DEnds} {D : Ends} (k : SK K R E η H Z P D) (e : Ext η H η1 H1) : SK K R E η1 H1 Z P D :=
  ⟨fun σ' H' δ' η' l x => k.nx σ' H' δ' η' l (e.trans x), fun v d H' η' l x => k.rt v d H' η' l (e.trans x), fun σ' H' δ' η' l x => k.bk σ' H' δ' η' l (e.trans x), fun σ' H' δ' η' l x => k.ct σ' H' δ' η' l (e.trans x), fun C od x H' η' l y => k.ex C od x H' η' l (e.trans y)⟩
def SoundS (K : PySem.W.Frag) (E : XK) (ts : TS) (t : DS) : Prop :=
  ∀ (R : Addr → Prop) (σ : L2.St) (H : Hp) (δ : DSt) (η : Eta) (Z : Xk) (P : DEnds) (D : Ends), Lk K R η H → Sl K R η H δ σ → t Z P δ η → SK K R E η H Z P D → ts D σ H
structure PDS (X : Cx) (E : XK) (st : Stmt) (ts : TS) (t : DS) : Prop where
  ps : PS X st ts
  so : SoundS X.K E ts t
structure PDSs (X : Cx) (E : XK) (st : List Stmt) (ts : TS) (t : DS) : Prop where
  ps : PSs X st ts
  so : SoundS X.K E ts t
/-- an expression's continuation within a statement -/
theorem SK.kn {K : PySem.W.Frag} {R : Addr → Prop} {E : XK} {η : Eta} {H : Hp} {Z : Xk} {P : DEnds} {D : Ends} (k : SK K R E η H Z P D) {α β : Type} {Rl : (Addr → Prop) → Eta → Hp → α → β → Prop} {Φ : β → Eta → Prop} {Q : α → Hp → Prop}
    (h : ∀ v d H' η', Lk K R η' H' → Ext η H η' H' → Rl R η' H' v d → Φ d η' → Q v H') : Kn K R E η H Z Rl Φ Q := ⟨h, k.ex⟩
abbrev DG := D → DSt → Eta → (DSt → Eta → Prop) → Prop
abbrev DGs := List D → DSt → Eta → (DSt → Eta → Prop) → Prop
def SoundT (K : PySem.W.Frag) (g : TG) (dg : DG) : Prop :=
  ∀ (R : Addr → Prop) (σ : L2.St) (H : Hp) (δ : DSt) (η : Eta) (v : V) (d : D) (Ψ : DSt → Eta → Prop) (Q : L2.St → Hp → Prop), Lk K R η H → Sl K R η H δ σ → Rep K R η H v d → dg d δ η Ψ →
    (∀ σ' H' δ' η', Lk K R η' H' → Ext η H η' H' → Sl K R η' H' δ' σ' → Ψ δ' η' → Q σ' H') → g v σ H Q
def SoundTs (K : PySem.W.Frag) (g : TGs) (dg : DGs) : Prop :=
  ∀ (R : Addr → Prop) (σ : L2.St) (H : Hp) (δ : DSt) (η : Eta) (v : List V) (d : List D) (Ψ : DSt → Eta → Prop) (Q : L2.St → Hp → Prop), Lk K R η H → Sl K R η H δ σ → Reps K R η H v d → dg d δ η Ψ →
    (∀ σ' H' δ' η', Lk K R η' H' → Ext η H η' H' → Sl K R η' H' δ' σ' → Ψ δ' η' → Q σ' H') → g v σ H Q
structure PDG (X : Cx) (e : Expr) (g : TG) (dg : DG) : Prop where
  pg : PG X e g
  so : SoundT X.K g dg
structure PDGs (X : Cx) (es : List Expr) (g : TGs) (dg : DGs) : Prop where
  pgs : PGs X es g
  so : SoundTs X.K g dg
section
variable {X : Cx} {E : XK} {st : Stmt} {rest : List Stmt} {ts us : TS} {t u : DS} {e : Expr} {te : TE} {de : DE} {pos : Pos}
def dNext : DS := fun _ P δ η => P.nx δ η
def dSeq (t u : DS) : DS := fun Z P δ η => t Z ⟨fun δ' η' => u Z P δ' η', P.rt, P.bk, P.ct⟩ δ η
theorem pdss_nil : PDSs X E [] tNext dNext := ⟨pss_nil, fun R σ H δ η Z P D l s h k => k.nx σ H δ η l (Ext.refl _ _) s h⟩
theorem pdss_one (h : PDS X E st ts t) : PDSs X E [st] ts t := ⟨pss_one h.ps, h.so⟩
theorem pdss_cons (h1 : PDS X E st ts t) (h2 : PDSs X E rest us u) : PDSs X E (st :: rest) (tSeq ts us) (dSeq t u) := ⟨pss_cons h1.ps h2.ps, fun R σ H δ η Z P D l s h k => by
  refine h1.so R σ H δ η Z _ _ l s h ⟨fun σ' H' δ' η' l' x s' h' => ?_, k.rt, k.bk, k.ct, k.ex⟩
  exact h2.so R σ' H' δ' η' Z P D l' s' h' (k.at_ x)⟩
def dRet (de : DE) : DS := fun Z P δ η => de Z δ η P.rt
theorem pds_ret (he : PD X E e te de) : PDS X E (.Return (some e) pos) (tRet te) (dRet de) := ⟨ps_ret he.pe, fun R σ H δ η Z P D l s h k => by
  exact he.so R σ H δ η Z _ _ l s h (k.kn fun v d H' η' l' x r h' => k.rt v d H' η' l' x r h')⟩
/-- a mutable list is returned for good -/
def frz (d : D) (η : Eta) : D × Eta := match d with
  | .ref p => match η p with
    | some (.lst ds) => (.lst ds, edel η p)
    | _ => (d, η)
  | _ => (d, η)
def dIfS (c : DT) (t u : DS) : DS := fun Z P δ η => c Z δ η fun b η1 => if b = true then t Z P δ η1 else u Z P δ η1
theorem pds_if {c : Expr} {a b : List Stmt} {tc : TT} {dc : DT} (hc : PDT X E c tc dc) (ha : PDSs X E a ts t) (hb : PDSs X E b us u) : PDS X E (.If c a b pos) (tIfS tc ts us) (dIfS dc t u) := ⟨ps_if hc.pt ha.ps hb.ps, fun R σ H δ η Z P D l s h k => by
  refine hc.so R σ H δ η Z _ _ l s h (k.kn fun v d H' η' l' x r h' => ?_)
  obtain rfl : v = d := r
  cases v with
  | true => exact ha.so R σ H' δ η' Z P D l' (s.up x) h' (k.at_ x)
  | false => exact hb.so R σ H' δ η' Z P D l' (s.up x) h' (k.at_ x)⟩
def dNever : DS := fun _ _ _ _ => False
theorem pdss_never {sts : List Stmt} : PDSs X E sts tNever dNever := ⟨pss_never, fun R σ H δ η Z P D l s h k => h.elim⟩
def dName (i : Nat) : DG := fun d δ η Ψ => Ψ (δ.set i (some d)) η
theorem so_name {K : PySem.W.Frag} {i : Nat} : SoundT K (gName i) (dName i) := fun R σ H δ η v d Ψ Q l s r h k => k _ H _ η l (Ext.refl _ _) (s.set r i) h
theorem pdg_name {i : Nat} {x : Str} (hN : X.N.Nodup) (hi : X.N[i]? = some x) (hx : Loc X.env.scope x) (hf : X.fn x = true ∨ X.env.scope.names.lookup x = some .local := by first | exact .inl rfl | exact .inr rfl | assumption) : PDG X (.Name x pos) (gName i) (dName i) := ⟨pg_name hN hi hx hf, so_name⟩
def dgNil : DGs := fun ds δ η Ψ => ds = [] ∧ Ψ δ η
def dgCons (g : DG) (gs : DGs) : DGs := fun ds δ η Ψ => ∃ d r, ds = d :: r ∧ g d δ η fun δ' η' => gs r δ' η' Ψ
theorem pdgs_nil : PDGs X [] gNil dgNil := ⟨pgs_nil, fun R σ H δ η v d Ψ Q l s r h k => by
  obtain ⟨rfl, h⟩ := h
  cases r
  exact ⟨rfl, k σ H δ η l (Ext.refl _ _) s h⟩⟩
theorem pdgs_cons {es : List Expr} {g : TG} {gs : TGs} {dg : DG} {dgs : DGs} (h1 : PDG X e g dg) (h2 : PDGs X es gs dgs) (hs : (assignEach (e :: es) X.env).map (·.2) = assign e X.env :: (assignEach es X.env).map (·.2) := by rfl) : PDGs X (e :: es) (gCons g gs) (dgCons dg dgs) :=
  ⟨pgs_cons h1.pg h2.pgs hs, fun R σ H δ η v d Ψ Q l s r h k => by
  obtain ⟨d1, dr, rfl, h⟩ := h
  cases r with
  | cons r1 r2 =>
    refine ⟨_, _, rfl, h1.so R σ H δ η _ _ _ _ l s r1 h fun σ' H' δ' η' l' x s' h' => ?_⟩
    exact h2.so R σ' H' δ' η' _ _ Ψ Q l' s' (r2.up x) h' fun σ2 H2 δ2 η2 l2 x2 s2 q2 => k σ2 H2 δ2 η2 l2 (x.trans x2) s2 q2⟩
def dTupG (n : Nat) (gs : DGs) : DG := fun d δ η Ψ => ∃ ds, d = .tup ds ∧ ds.length = n ∧ gs ds δ η Ψ
theorem pdg_tup {es : List Expr} {k : Nat} {gs : TGs} {dgs : DGs} {n : Nat} (hc : X.calm = true) (h : PDGs X es gs dgs) (hn : (assignEach es X.env).length = n := by rfl) (hst : (assignEach es X.env).findIdx? (·.1) = none := by rfl) : PDG X (.Tuple es k pos) (gTup X.K n gs) (dTupG n dgs) :=
  ⟨pg_tup hc h.pgs hn hst, fun R σ H δ η v d Ψ Q l s r hw k => by
  obtain ⟨ds, rfl, hl, hw⟩ := hw
  obtain ⟨a, xs, rfl, hq, rs⟩ := r.sqT
  exact ⟨a, xs, rfl, hq, by rw [rs.length]; exact hl, h.so R σ H δ η _ _ Ψ Q l s rs hw k⟩⟩
def dAsg (de : DE) (g : DG) : DS := fun Z P δ η => de Z δ η fun d η1 => g d δ η1 P.nx
theorem so_asg {K : PySem.W.Frag} {g : TG} {dg : DG} (he : SoundG K E (Rep K) te de) (hg : SoundT K g dg) : SoundS K E (tAsg te g) (dAsg de dg) := fun R σ H δ η Z P D l s h k => by
  refine he R σ H δ η Z _ _ l s h (k.kn fun v d H' η' l' x r h' => ?_)
  exact hg R σ H' δ η' v d _ _ l' (s.up x) r h' fun σ2 H2 δ2 η2 l2 x2 s2 q2 => k.nx σ2 H2 δ2 η2 l2 (x.trans x2) s2 q2
theorem pds_asg {tg : Expr} {g : TG} {dg : DG} (he : PD X E e te de) (hg : PDG X tg g dg) (hs : swapsWithSole [tg] e pos.line X.env = pure false := by rfl) (hw : swappedStores [tg] e X.env = pure none := by rfl)
    (h1 : (assignEach [tg] X.env).map (·.2) = [assign tg X.env] := by rfl) : PDS X E (.Assign [tg] e pos) (tAsg te g) (dAsg de dg) := ⟨ps_asg he.pe hg.pg hs hw h1, so_asg he.so hg.so⟩
theorem pds_set {i : Nat} {x : Str} {pos' : Pos} (hN : X.N.Nodup) (hi : X.N[i]? = some x) (hx : Loc X.env.scope x) (he : PD X E e te de) (hs : swapsWith e (some (.Name x pos')) pos.line X.env = pure false := by rfl) (hf : X.fn x = true ∨ X.env.scope.names.lookup x = some .local := by first | exact .inl rfl | exact .inr rfl | assumption) :
    PDS X E (.Assign [.Name x pos'] e pos) (tAsg te (gName i)) (dAsg de (dName i)) := ⟨ps_set hN hi hx he.pe hs hf, so_asg he.so so_name⟩
def dPar (i j : Nat) (da : DA) : DS := fun Z P δ η => da Z δ η fun ds η1 => ∃ v w, ds = [v, w] ∧ P.nx ((δ.set i (some v)).set j (some w)) η1
theorem pds_par {i j : Nat} {x y : Str} {a b : Expr} {ta : TA} {da : DA} {px py pt : Pos} {kt k2 pt2} (hc : X.calm = true) (hN : X.N.Nodup) (hi : X.N[i]? = some x) (hj : X.N[j]? = some y) (hij : i ≠ j)
    (hx : X.env.scope.names.lookup x = some .local) (hy : X.env.scope.names.lookup y = some .local) (ha : PDA X E [a, b] ta da)
    (hw : swappedStores [.Tuple [.Name x px, .Name y py] kt pt] (.Tuple [a, b] k2 pt2) X.env = pure (some [x, y]))
    (hs : swapsWithSole [.Tuple [.Name x px, .Name y py] kt pt] (.Tuple [a, b] k2 pt2) pos.line X.env = pure false := by rfl) :
    PDS X E (.Assign [.Tuple [.Name x px, .Name y py] kt pt] (.Tuple [a, b] k2 pt2) pos) (tPar i j ta) (dPar i j da) := ⟨ps_par hc hN hi hj hij hx hy ha.pa hw hs, fun R σ H δ η Z P D l s h k => by
  refine ha.so R σ H δ η Z _ _ l s h (k.kn fun v d H' η' l' x r h' => ?_)
  obtain ⟨d1, d2, rfl, h'⟩ := h'
  cases r with
  | cons r1 r =>
    cases r with
    | cons r2 r =>
      cases r
      exact ⟨_, _, rfl, k.nx _ H' _ η' l' x (((s.up x).set r1 i).set r2 j) h'⟩⟩
/-- o[i] = v -/
abbrev DSet := D → D → D → Eta → (Eta → Prop) → Prop
structure StD (X : Cx) (r : TSet) (o : DSet) : Prop where
  op : PSet X r
  so : ∀ (R : Addr → Prop) (η : Eta) (H : Hp) (x y z : V) (dx dy dz : D) (Φ : Eta → Prop) (Q : Hp → Prop), Lk X.K R η H → Rep X.K R η H x dx → Rep X.K R η H y dy → Rep X.K R η H z dz → o dx dy dz η Φ → (∀ H' η', Lk X.K R η' H' → Ext η H η' H' → Φ η' → Q H') → r x y z H Q
abbrev Z0 : Xk := fun _ _ => False
def dSub (do_ di : DE) (o : DSet) : DG := fun v δ η Ψ => do_ Z0 δ η fun x η1 => di Z0 δ η1 fun y η2 => o x y v η2 fun η3 => Ψ δ η3
theorem pdg_sub {o i : Expr} {to ti : TE} {do_ di : DE} {r : TSet} {ds : DSet} (ho : PD X E o to do_) (hi : PD X E i ti di) (hs : StD X r ds)
    (ha : ∀ v, assign (.Subscript o i pos) X.env v = (do
      let ov ← holding [v] (eval o X.env)
      let iv ← holding [v, ov] (eval i X.env)
      standAt pos
      holding [v, ov, iv] (setItem ov iv v)
      release [v, ov, iv] []) := by intro _; rfl) : PDG X (.Subscript o i pos) (gSub to ti r) (dSub do_ di ds) := ⟨pg_sub ho.pe hi.pe hs.op ha, fun R σ H δ η v d Ψ Q l s r h k => by
  refine ho.so R σ H δ η Z0 _ _ l s h ⟨fun v1 d1 H1 η1 l1 x1 r1 h1 => ?_, fun _ _ _ _ _ _ _ _ z => z.elim⟩
  refine hi.so R σ H1 δ η1 Z0 _ _ l1 (s.up x1) h1 ⟨fun v2 d2 H2 η2 l2 x2 r2 h2 => ?_, fun _ _ _ _ _ _ _ _ z => z.elim⟩
  exact hs.so R η2 H2 v1 v2 v d1 d2 d _ _ l2 (r1.up x2) r2 ((r.up x1).up x2) h2 fun H3 η3 l3 x3 h3 => k σ H3 δ η3 l3 ((x1.trans x2).trans x3) ((s.up x1).up (x2.trans x3)) h3⟩
end
/-- the items ds, while G holds -/
def ItOk (K : PySem.W.Frag) (R : Addr → Prop) (η0 : Eta) (H0 : Hp) (J : It) (ds : List D) (G : Eta → Prop) : Prop :=
  ∀ (η : Eta) (H : Hp), Lk K R η H → Ext η0 H0 η H → G η → J.stop ds.length H ∧ ∀ (i : Nat) (d : D), ds[i]? = some d → J.go i H ∧ ∀ x H', J.yld i H x H' → Lk K R η H' ∧ (∀ a o, H a = some o → H' a = some o) ∧ Rep K R η H' x d
abbrev DI := Xk → DSt → Eta → (List D → (Eta → Prop) → Eta → Prop) → Prop
def SoundI (K : PySem.W.Frag) (E : XK) (wi : TI) (di : DI) : Prop :=
  ∀ (R : Addr → Prop) (σ : L2.St) (H : Hp) (δ : DSt) (η : Eta) (Z : Xk) (Ψ : List D → (Eta → Prop) → Eta → Prop) (Q : It → Hp → Prop), Lk K R η H → Sl K R η H δ σ → di Z δ η Ψ →
    (∀ J ds G H' η', Lk K R η' H' → Ext η H η' H' → (∀ R', (∀ a, R a → R' a) → (∀ a, R' a → ¬ R a → H' a = none) → ItOk K R' η' H' J ds G) → Ψ ds G η' → Q J H') →
    (∀ C od x H' η', Lk K R η' H' → Ext η H η' H' → XRep K R η' H' C od x → Z x η' → E (.ref C) od H') → wi σ H Q
structure PDI (X : Cx) (E : XK) (tg iter : Expr) (wi : TI) (di : DI) : Prop where
  pi : PI X tg iter wi
  so : SoundI X.K E wi di
def dForL (g : DG) (body : DS) (Z : Xk) (P : DEnds) (G : Eta → Prop) : List D → DSt → Eta → Prop
  | [], δ, η => G η ∧ P.nx δ η
  | x :: xs, δ, η => G η ∧ g x δ η fun δ1 η1 => body Z ⟨fun δ2 η2 => dForL g body Z P G xs δ2 η2, P.rt, P.nx, fun δ2 η2 => dForL g body Z P G xs δ2 η2⟩ δ1 η1
def dFor (di : DI) (g : DG) (body : DS) : DS := fun Z P δ η => di Z δ η fun ds G η1 => dForL g body Z P G ds δ η1
theorem dForL_G {g : DG} {body : DS} {Z : Xk} {P : DEnds} {G : Eta → Prop} : ∀ {ds : List D} {δ : DSt} {η : Eta}, dForL g body Z P G ds δ η → G η
  | [], _, _, h => h.1
  | _ :: _, _, _, h => h.1
section
variable {X : Cx} {E : XK} {tg iter : Expr} {body : List Stmt} {wi : TI} {di : DI} {g : TG} {dg : DG} {tb : TS} {db : DS} {pos : Pos}
theorem pds_for (hp : PassesOwn (model X.prog X.w) X.A X.env X.xe) (hc : X.calm = true) (hi : PDI X E tg iter wi di) (hg : PDG X tg g dg) (hb : PDSs X E body tb db)
    (hs : ∀ x, foldedSetIterable iter X.env x = pure x := by intro _; rfl) : PDS X E (.For tg iter body [] pos) (tFor wi g tb) (dFor di dg db) := ⟨ps_for hp hc hi.pi hg.pg hb.ps hs, fun R σ H δ η Z P D l s h k => by
  refine hi.so R σ H δ η Z _ _ l s h (fun J ds G H1 η1 l1 x1 it h1 => ?_) k.ex
  have it := it R (fun _ h => h) (fun a h1 h2 => absurd h1 h2)
  refine ⟨fun i m σ' H' => m = ds.length - i ∧ i ≤ ds.length ∧ ∃ δ' η', Lk X.K R η' H' ∧ Ext η1 H1 η' H' ∧ Sl X.K R η' H' δ' σ' ∧ dForL dg db Z P G (ds.drop i) δ' η', ⟨ds.length, by simp, Nat.zero_le _, δ, η1, l1, Ext.refl _ _, s.up x1, by simpa using h1⟩, ?_⟩
  rintro i m σ' H' ⟨rfl, hi', δ', η', l', x', s', h'⟩
  obtain ⟨st, go⟩ := it η' H' l' x' (dForL_G h')
  by_cases hlt : i < ds.length
  · obtain ⟨d, hd⟩ : ∃ d, ds[i]? = some d := ⟨ds[i], by simp [hlt]⟩
    obtain ⟨g1, g2⟩ := go i d hd
    have hdr : ds.drop i = d :: ds.drop (i + 1) := by
      rw [List.drop_eq_getElem_cons hlt]
      rw [List.getElem?_eq_getElem hlt] at hd
      rw [Option.some.inj hd]
    rw [hdr] at h'
    refine .inr ⟨g1, fun σ2 H2 => ∃ δ2 η2, Lk X.K R η2 H2 ∧ Ext η1 H1 η2 H2 ∧ Sl X.K R η2 H2 δ2 σ2 ∧ dForL dg db Z P G (ds.drop (i + 1)) δ2 η2, fun σ2 H2 n => ⟨ds.length - (i + 1), by omega, rfl, hlt, n⟩, fun x H2 y => ?_⟩
    obtain ⟨l2, ex2, r2⟩ := g2 x H2 y
    have x2 : Ext η' H' η' H2 := Ext.ex ex2
    refine hg.so R σ' H2 δ' η' x d _ _ l2 (s'.up x2) r2 h'.2 fun σ3 H3 δ3 η3 l3 x3 s3 h3 => ?_
    have x13 := (x'.trans x2).trans x3
    exact hb.so R σ3 H3 δ3 η3 Z _ _ l3 s3 h3 ⟨fun σ4 H4 δ4 η4 l4 x4 s4 h4 => ⟨δ4, η4, l4, x13.trans x4, s4, h4⟩, fun v d H4 η4 l4 x4 => k.rt v d H4 η4 l4 (x1.trans (x13.trans x4)), fun σ4 H4 δ4 η4 l4 x4 => k.nx σ4 H4 δ4 η4 l4 (x1.trans (x13.trans x4)),
      fun σ4 H4 δ4 η4 l4 x4 s4 h4 => ⟨δ4, η4, l4, x13.trans x4, s4, h4⟩, fun C od x H4 η4 l4 x4 => k.ex C od x H4 η4 l4 (x1.trans (x13.trans x4))⟩
  · have e : i = ds.length := by omega
    subst e
    rw [List.drop_length] at h'
    exact .inl ⟨st, k.nx σ' H' δ' η' l' (x1.trans x') s' h'.2⟩⟩
/-- over a list, a tuple -/
def asL (η : Eta) : D → Option (List D)
  | .lst xs => some xs
  | .ref p => match η p with
    | some (.lst xs) => some xs
    | _ => none
  | _ => none
end
mutual
/-- more is kept back: new addresses -/
theorem Rep.more {K : PySem.W.Frag} {R R' : Addr → Prop} {η : Eta} {H : Hp} (h2 : ∀ a, R' a → ¬ R a → H a = none) : ∀ (d : D) (v : V), Rep K R η H v d → Rep K R' η H v d
  | .non, _, h => by cases h; exact .non
  | .bl _, _, h => by cases h; exact .bl _
  | .int _, _, h => by cases h; exact .int _
  | .str _, _, h => by cases h with | str a => exact .str a
  | .ty _, _, h => by cases h; exact .ty _
  | .ref _, _, h => by cases h; exact .ref _
  | .lst ds, _, h => by
    cases h with
    | lst a b r c => exact .lst a b (fun z => by have q := h2 _ z r; rcases a with a | ⟨o, a⟩ <;> (rw [q] at a; cases a)) (Reps.more h2 ds _ c)
  | .klst ds, _, h => by
    cases h with
    | klst a b r c => exact .klst a b (fun z => by have q := h2 _ z r; rcases a with a | ⟨o, a⟩ <;> (rw [q] at a; cases a)) (Reps.more h2 ds _ c)
    | klstK a1 a2 a3 a4 a5 a6 c => exact .klstK a1 a2 a3 a4 a5 a6 (Reps.more h2 ds _ c)
  | .tup ds, _, h => by
    cases h with
    | tup a b r c => exact .tup a b (fun z => by have q := h2 _ z r; rcases a with a | ⟨o, a⟩ <;> (rw [q] at a; cases a)) (Reps.more h2 ds _ c)
    | tupK a1 a2 a3 a4 a5 c => exact .tupK a1 a2 a3 a4 a5 (Reps.more h2 ds _ c)
  | .obj C ns ds, _, h => by
    cases h with
    | obj a b r c d => exact .obj a b (fun z => by have q := h2 _ z r; rw [q] at a; cases a) c (Reps.more h2 ds _ d)
  | .exc C ns ds, _, h => by
    cases h with
    | exc x c d => exact .exc ⟨x.at_, x.n, (fun z => by have q := h2 _ z x.r; rw [x.at_] at q; cases q), x.dat, x.dn, (fun z => by have q := h2 _ z x.dr; rw [x.dat] at q; cases q)⟩ c (Reps.more h2 ds _ d)
  | .dct ks ds, _, h => by
    cases h with
    | dct a b r c d => exact .dct a b (fun z => by have q := h2 _ z r; rw [q] at a; cases a) c (Reps.more h2 ds _ d)
theorem Reps.more {K : PySem.W.Frag} {R R' : Addr → Prop} {η : Eta} {H : Hp} (h2 : ∀ a, R' a → ¬ R a → H a = none) : ∀ (ds : List D) (vs : List V), Reps K R η H vs ds → Reps K R' η H vs ds
  | [], _, h => by cases h; exact .nil
  | d :: ds, _, h => by
    cases h with
    | cons a b => exact .cons (Rep.more h2 d _ a) (Reps.more h2 ds _ b)
end
theorem MOk.more {K : PySem.W.Frag} {R R' : Addr → Prop} {η : Eta} {H : Hp} (h2 : ∀ a, R' a → ¬ R a → H a = none) {a : Addr} {m : M} (h : MOk K R η H a m) : MOk K R' η H a m := by
  cases m with
  | lst ds => obtain ⟨xs, a, b⟩ := h; exact ⟨xs, a, Reps.more h2 _ _ b⟩
  | ins C ns ds => obtain ⟨dx, fs, a, b, c⟩ := h; exact ⟨dx, fs, a, b, Reps.more h2 _ _ c⟩
  | dct ks ds => obtain ⟨kvs, a, b, c⟩ := h; exact ⟨kvs, a, b, Reps.more h2 _ _ c⟩
section
variable {X : Cx} {E : XK} {tg e : Expr} {te : TE} {de : DE} {pos : Pos}
/-- range(n), range(a, b) -/
def iota (lo : Int) (n : Nat) : List D := (List.range n).map fun (i : Nat) => D.int (lo + i)
theorem iota_length (lo : Int) (n : Nat) : (iota lo n).length = n := by simp [iota]
theorem it_range {K : PySem.W.Frag} {R : Addr → Prop} {η : Eta} {H : Hp} {lo : Int} {n : Nat} : ItOk K R η H (Itr lo n) (iota lo n) (fun _ => True) := fun η' H' l x _ => by
  refine ⟨by show n ≤ (iota lo n).length; rw [iota_length]; exact Nat.le_refl _, fun i d hd => ?_⟩
  have hi : i < n := by have := (List.getElem?_eq_some_iff.mp hd).1; rwa [iota_length] at this
  refine ⟨hi, fun y H2 yl => ?_⟩
  obtain ⟨rfl, rfl⟩ := yl
  refine ⟨l, fun _ _ h => h, ?_⟩
  unfold iota at hd
  rw [List.getElem?_map, List.getElem?_range hi] at hd
  cases hd
  exact .int _
def dIR1 (da : DA) : DI := fun Z δ η Ψ => da Z δ η fun ds η1 => ∃ j : Int, ds = [.int j] ∧ -(2 ^ 62) ≤ j ∧ j < 2 ^ 62 ∧ Ψ (iota 0 j.toNat) (fun _ => True) η1
theorem pdi_range1 {a : Expr} {ta : TA} {da : DA} {p : Pos} (hg : Gl X "range") (hm : X.mg "range" = none) (ha : PDA X E [a] ta da) (hs : starEach [a] X.env = [(false, eval a X.env)] := by rfl) : PDI X E tg (.Call (.Name "range" p) [a] [] pos) (iRng1 ta) (dIR1 da) := ⟨pi_range1 hg hm ha.pa hs, fun R σ H δ η Z Ψ Q l s hw k kx => by
  refine ha.so R σ H δ η Z _ _ l s hw ⟨fun v d H1 η1 l1 x1 r1 h1 => ?_, kx⟩
  obtain ⟨j, rfl, q1, q2, h1⟩ := h1
  cases r1 with
  | cons r1 r2 =>
    cases r1
    cases r2
    exact ⟨j, rfl, q1, q2, k _ _ _ H1 η1 l1 x1 (fun _ _ _ => it_range) h1⟩⟩
end
def wipeD (δ : DSt) : List Nat → DSt
  | [] => δ
  | v :: vs => (wipeD δ vs).set v none
def dLcL (g : DG) (tt : DT) (te : DE) (δ : DSt) (Z : Xk) (G : Eta → Prop) (Φ : DK) : List D → List D → Eta → Prop
  | [], acc, η => G η ∧ Φ (.lst acc) η
  | x :: xs, acc, η => G η ∧ g x δ η fun δ2 η2 => tt Z0 δ2 η2 fun b η3 => if b = true then te Z0 δ2 η3 fun y η4 => acc.length < sizeLine ∧ dLcL g tt te δ Z G Φ xs (acc ++ [y]) η4 else dLcL g tt te δ Z G Φ xs acc η3
def dLc (di : DI) (g : DG) (tt : DT) (te : DE) (vs : List Nat) : DE := fun Z δ η Φ => di Z δ η fun ds G η1 => dLcL g tt te (wipeD δ vs) Z G Φ ds [] η1
theorem dLcL_G {g : DG} {tt : DT} {te : DE} {δ : DSt} {Z : Xk} {G : Eta → Prop} {Φ : DK} : ∀ {ds acc : List D} {η : Eta}, dLcL g tt te δ Z G Φ ds acc η → G η
  | [], _, _, h => h.1
  | _ :: _, _, _, h => h.1
theorem Sl.wipe {K : PySem.W.Frag} {R : Addr → Prop} {η : Eta} {H : Hp} {δ : DSt} {σ : L2.St} (s : Sl K R η H δ σ) : ∀ vs, Sl K R η H (wipeD δ vs) (L2.wipe σ vs)
  | [] => s
  | v :: vs => by
    have t := Sl.wipe s vs
    refine ⟨by unfold wipeD L2.wipe; simp [t.len], fun j d' h => ?_⟩
    unfold wipeD at h
    unfold L2.wipe
    by_cases e : v = j
    · subst e
      by_cases lt : v < (wipeD δ vs).length
      · rw [List.getElem?_set_self lt] at h; cases h
      · rw [List.getElem?_eq_none (by simpa using lt)] at h; cases h
    · rw [List.getElem?_set_ne e] at h
      obtain ⟨w, h1, h2⟩ := t.at_ j d' h
      exact ⟨w, by rw [List.getElem?_set_ne e]; exact h1, h2⟩
/-- a target that stores only its own names -/
def OwnG (g : TG) (vs : List Nat) : Prop := ∀ v σ H Q, g v σ H Q → g v σ H fun σ2 H2 => L2.wipe σ2 vs = L2.wipe σ vs ∧ Q σ2 H2
def OwnGs (g : TGs) (vs : List Nat) : Prop := ∀ v σ H Q, g v σ H Q → g v σ H fun σ2 H2 => L2.wipe σ2 vs = L2.wipe σ vs ∧ Q σ2 H2
structure PDTs (X : Cx) (E : XK) (ifs : List Expr) (tt : TT) (t : DT) : Prop where
  pt : PTs X ifs tt
  so : SoundG X.K E REq tt t
def dYes : DT := fun _ _ η Φ => Φ true η
theorem pdts_nil {X : Cx} {E : XK} : PDTs X E [] tYes dYes := ⟨pts_nil, fun R σ H δ η Z Φ Q l s h k => k.ok true true H η l (Ext.refl _ _) rfl h⟩
theorem wipe_get (τ : L2.St) (ws : List Nat) (j : Nat) : (L2.wipe τ ws)[j]? = if j ∈ ws ∧ j < τ.length then some none else τ[j]? := by
  induction ws with
  | nil => simp [L2.wipe]
  | cons w ws ih =>
    unfold L2.wipe
    by_cases e : w = j
    · subst e
      by_cases lt : w < τ.length
      · rw [List.getElem?_set_self (by rw [wipe_length]; exact lt)]; simp [lt]
      · rw [List.getElem?_eq_none (by simp [wipe_length]; omega), if_neg (by omega), List.getElem?_eq_none (by omega)]
    · rw [List.getElem?_set_ne e, ih]
      have : (j ∈ w :: ws) ↔ j ∈ ws := by simp [Ne.symm e]
      simp only [this]
theorem wipe_set {σ : L2.St} {i : Nat} {x : Option V} {vs : List Nat} (hi : i ∈ vs) : L2.wipe (σ.set i x) vs = L2.wipe σ vs := by
  apply List.ext_getElem?
  intro j
  rw [wipe_get, wipe_get, List.length_set]
  by_cases hj : j ∈ vs ∧ j < σ.length
  · rw [if_pos hj, if_pos hj]
  · rw [if_neg hj, if_neg hj]
    by_cases e : i = j
    · subst e
      have : ¬ i < σ.length := fun z => hj ⟨hi, z⟩
      rw [List.getElem?_eq_none (by simp; omega), List.getElem?_eq_none (by omega)]
    · rw [List.getElem?_set_ne e]
theorem wipe_wipe {σ : L2.St} {vs : List Nat} : L2.wipe (L2.wipe σ vs) vs = L2.wipe σ vs := by
  apply List.ext_getElem?
  intro j
  rw [wipe_get, wipe_get, wipe_length]
  split <;> rfl
theorem own_name {i : Nat} {vs : List Nat} (h : i ∈ vs) : OwnG (gName i) vs := fun v σ H Q q => ⟨wipe_set h, q⟩
theorem owns_nil {vs : List Nat} : OwnGs gNil vs := fun v σ H Q q => ⟨q.1, rfl, q.2⟩
theorem owns_cons {g : TG} {gs : TGs} {vs : List Nat} (h1 : OwnG g vs) (h2 : OwnGs gs vs) (m : ∀ v σ H Q Q', (∀ σ2 H2, Q σ2 H2 → Q' σ2 H2) → g v σ H Q → g v σ H Q') : OwnGs (gCons g gs) vs := fun v σ H Q q => by
  obtain ⟨a, r, e, q⟩ := q
  refine ⟨a, r, e, m _ _ _ _ _ (fun σ2 H2 z => ?_) (h1 a σ H _ q)⟩
  have := h2 r σ2 H2 Q z.2
  rw [z.1] at this
  exact this
theorem own_tup {K : PySem.W.Frag} {n : Nat} {gs : TGs} {vs : List Nat} (h : OwnGs gs vs) : OwnG (gTup K n gs) vs := fun v σ H Q q => by
  obtain ⟨a, xs, e, h1, h2, q⟩ := q
  exact ⟨a, xs, e, h1, h2, h xs σ H Q q⟩
theorem mono_name {i : Nat} : ∀ v σ H (Q Q' : L2.St → Hp → Prop), (∀ σ2 H2, Q σ2 H2 → Q' σ2 H2) → gName i v σ H Q → gName i v σ H Q' := fun _ _ _ _ _ f h => f _ _ h
section
variable {X : Cx} {E : XK} {elt tg iter : Expr} {ifs : List Expr} {scope : Scope} {own : List (Str × Nat)} {pos : Pos} {wi : TI} {di : DI} {g : TG} {dg : DG} {tt : TT} {dt : DT} {te : TE} {de : DE}
theorem so_lc {K : PySem.W.Frag} {E1 : XK} (hi : SoundI K E wi di) (hg : SoundT K g dg) (ho : OwnG g (own.map (·.2))) (ht : SoundG K E1 REq tt dt) (he : SoundG K E1 (Rep K) te de) : SoundG K E (Rep K) (tLc wi g tt te (own.map (·.2))) (dLc di dg dt de (own.map (·.2))) := fun R σ H δ η Z Φ Q l s h k => by
  refine hi R σ H δ η Z _ _ l s h (fun J ds G H1 η1 l1 x1 it h1 => ?_) k.ex
  intro D hD
  have itD := it (rup R D) (fun a ra => .inr ra) (fun a ra nr => by rcases ra with rfl | ra; (· exact hD); exact absurd ra nr)
  have sw := (s.up x1).wipe (own.map (·.2))
  refine ⟨fun i m H' => m = ds.length - i ∧ i ≤ ds.length ∧ ∃ η' acc xs, Lk K (rup R D) η' H' ∧ Ext η1 H1 η' H' ∧ Sl K (rup R D) η' H' (wipeD δ (own.map (·.2))) (L2.wipe σ (own.map (·.2))) ∧ H' D = some (.lst xs) ∧ Reps K (rup R D) η' H' xs acc ∧ dLcL dg dt de (wipeD δ (own.map (·.2))) Z G Φ (ds.drop i) acc η',
    ⟨ds.length, by simp, Nat.zero_le _, η1, [], [], l1.back hD, Ext.new hD, sw.back hD, upd_same, .nil, by simpa using h1⟩, ?_⟩
  rintro i m H' ⟨rfl, hi', η', acc, xs, l', x', s', hx, ra, h'⟩
  obtain ⟨st, go⟩ := itD η' H' l' x' (dLcL_G h')
  by_cases hlt : i < ds.length
  · obtain ⟨d, hd⟩ : ∃ d, ds[i]? = some d := ⟨ds[i], by simp [hlt]⟩
    obtain ⟨g1, g2⟩ := go i d hd
    have hdr : ds.drop i = d :: ds.drop (i + 1) := by
      rw [List.drop_eq_getElem_cons hlt]
      rw [List.getElem?_eq_getElem hlt] at hd
      rw [Option.some.inj hd]
    rw [hdr] at h'
    refine .inr ⟨g1, fun H2 => ∃ η' acc xs, Lk K (rup R D) η' H2 ∧ Ext η1 H1 η' H2 ∧ Sl K (rup R D) η' H2 (wipeD δ (own.map (·.2))) (L2.wipe σ (own.map (·.2))) ∧ H2 D = some (.lst xs) ∧ Reps K (rup R D) η' H2 xs acc ∧ dLcL dg dt de (wipeD δ (own.map (·.2))) Z G Φ (ds.drop (i + 1)) acc η', fun H2 n => ⟨ds.length - (i + 1), by omega, rfl, hlt, n⟩, fun x H2 y => ?_⟩
    obtain ⟨l2, ex2, r2⟩ := g2 x H2 y
    have x2 : Ext η' H' η' H2 := Ext.ex ex2
    have ow := fun Q' q' => ho x (L2.wipe σ (own.map (·.2))) H2 Q' q'
    rw [wipe_wipe] at ow
    refine ow _ ?_
    refine hg (rup R D) _ H2 _ η' x d _ _ l2 (s'.up x2) r2 h'.2 fun σ3 H3 δ3 η3 l3 x3 s3 h3 => ?_
    have x13 := (x'.trans x2).trans x3
    have nD : η' D = none := (l'.r D (.inl rfl)).2
    refine ht (rup R D) σ3 H3 δ3 η3 Z0 _ _ l3 s3 h3 ⟨fun b b' H4 η4 l4 x4 eb h4 => ?_, fun _ _ _ _ _ _ _ _ z => z.elim⟩
    obtain rfl : b = b' := eb
    have x14 := x13.trans x4
    have x24 := (x2.trans x3).trans x4
    cases b with
    | false =>
      have sw4 : Sl K (rup R D) η4 H4 (wipeD δ (own.map (·.2))) (L2.wipe σ (own.map (·.2))) := s'.up x24
      exact ⟨η4, acc, xs, l4, x14, sw4, x24.keepN D _ nD hx, ra.up x24, h4⟩
    | true =>
      refine he (rup R D) σ3 H4 δ3 η4 Z0 _ _ l4 (s3.up x4) h4 ⟨fun v5 d5 H5 η5 l5 x5 r5 h5 => ?_, fun _ _ _ _ _ _ _ _ z => z.elim⟩
      have x25 := x24.trans x5
      have hx5 := x25.keepN D _ nD hx
      refine ⟨xs, hx5, by rw [ra.length]; exact h5.1, η5, acc ++ [d5], xs ++ [v5], l5.put, ?_, (s'.up x25).put, upd_same, ?_, h5.2⟩
      · have x15 := x14.trans x5
        refine ⟨fun a o n e => ?_, x15.dom⟩
        rw [upd_ne (ne_of_none e hD)]
        exact x15.keep a o n e
      · exact (Reps.forth ne_ex _ _ ((ra.up x25).append (.cons r5 .nil))).2
  · have e : i = ds.length := by omega
    subst e
    rw [List.drop_length] at h'
    refine .inl ⟨st, k.ok _ _ H' η' l'.forth (x1.trans x') (.lst (.inl hx) (l'.r D (.inl rfl)).2 ((l1.nr hD)) (Reps.forth (fun _ _ _ h => h) _ _ ra).1) h'.2⟩
theorem pd_lc (hc : X.calm = true) (hN : X.N.Nodup) (hi : PDI X E tg iter wi di) (ok : BlkOk X.N X.env.scope scope own)
    (hg : ∀ (s : Shared) (H : Hp) (C : Addr) (cl : List (Str × Addr)) (fp : List Addr), PDG (X.blk s H scope (compEnvC scope cl C X.env) fp) tg g dg) (ho : OwnG g (own.map (·.2)))
    (ht : ∀ (s : Shared) (H : Hp) (C : Addr) (cl : List (Str × Addr)) (fp : List Addr), PDTs (X.blk s H scope (compEnvC scope cl C X.env) fp) E0 ifs tt dt)
    (he : ∀ (s : Shared) (H : Hp) (C : Addr) (cl : List (Str × Addr)) (fp : List Addr), PD (X.blk s H scope (compEnvC scope cl C X.env) fp) E0 elt te de) (hs : ∀ x, foldedSetIterable iter X.env x = pure x := by intro _; rfl) :
    PD X E (.ListComp elt [⟨tg, iter, ifs, 0⟩] scope pos) (tLc wi g tt te (own.map (·.2))) (dLc di dg dt de (own.map (·.2))) :=
  ⟨pe_lc hc hN hi.pi ok (fun s H C cl fp => (hg s H C cl fp).pg) (fun s H C cl fp => (ht s H C cl fp).pt) (fun s H C cl fp => (he s H C cl fp).pe) hs,
    so_lc hi.so (hg X.s_0 X.H_0 0 [] []).so ho (ht X.s_0 X.H_0 0 [] []).so (he X.s_0 X.H_0 0 [] []).so⟩
end
end DL
end
section
set_option Elab.async false
set_option linter.all false
set_option autoImplicit false
set_option maxRecDepth 100000
set_option maxHeartbeats 4000000
namespace DL
open PySem PySem.Spec PyProof.Rows L2
/-- what a def does, over data: the arguments, the mutable objects, what an exception comes to, what follows -/
abbrev Ct := List D → Eta → Xk → DK → Prop
def sp0 (K : PySem.W.Frag) (c : Ct) : Sp := fun vs H Q E => ∃ (R : Addr → Prop) (η : Eta) (ds : List D) (Z : Xk) (Φ : DK), Lk K R η H ∧ Reps K R η H vs ds ∧ c ds η Z Φ ∧ (∀ v d H' η', Lk K R η' H' → Ext η H η' H' → Rep K R η' H' v d → Φ d η' → Q v H') ∧
  ∀ C od x H' η', Lk K R η' H' → Ext η H η' H' → XRep K R η' H' C od x → Z x η' → E (.ref C) od H'
/-- what is raised in X comes to E -/
abbrev TkX (X : Cx) (E : XK) : Prop := Takes X fun cls d _ H => E cls d H
theorem TkX.pass {X : Cx} {E : XK} (tk : TkX X E) : Passes (L2.CX X.prog X.w) X E := passes_call tk fun _ _ _ _ h => h
def dstart (N : List Str) (ds : List D) : DSt := ds.map some ++ List.replicate (N.length - ds.length) none
theorem sl_start {K : PySem.W.Frag} {R : Addr → Prop} {η : Eta} {H : Hp} {N : List Str} {vs : List V} {ds : List D} (r : Reps K R η H vs ds) : Sl K R η H (dstart N ds) (L2.start N vs) := by
  have hl := r.length
  refine ⟨by simp [dstart, L2.start, hl], fun i d h => ?_⟩
  unfold dstart at h
  unfold L2.start
  by_cases hi : i < ds.length
  · rw [List.getElem?_append_left (by simpa using hi), List.getElem?_map] at h
    cases e : ds[i]? with
    | none => rw [e] at h; cases h
    | some d' =>
      rw [e] at h
      cases h
      obtain ⟨v, hv, rv⟩ := r.get e
      exact ⟨v, by rw [List.getElem?_append_left (by rw [List.length_map, hl]; exact hi), List.getElem?_map, hv]; rfl, rv⟩
  · rw [List.getElem?_append_right (by simpa using hi), List.getElem?_replicate] at h
    split at h <;> cases h
abbrev Pend (Φ : DK) : DEnds := ⟨fun _ η => Φ .non η, Φ, fun _ _ => False, fun _ _ => False⟩
section
variable {P : Program} {w : World} {K : PySem.W.Frag} {mg : Str → Option Value} {base : Heap}
/-- a def of the text keeps its contract, by its body -/
theorem fn0 {x qual : Str} {st : Stmt} {f : Addr} {fd : FuncData} {N ps : List Str} {k : Nat} {c : Ct} (F : Fun K x qual st f fd) (S : FnScope N ps (defScope st)) (hlen : ∀ ds η Z Φ, c ds η Z Φ → ds.length = ps.length)
    (hb : ∀ (cdv : Value) (A : Around) (outer : List Env) (s : Shared) (H : Hp) (E : XK) (ds : List D) (η : Eta) (Z : Xk) (Φ : DK), Room k (A.deeper (envOfC qual (defScope st) s.heap.objs.size f cdv)) → c ds η Z Φ →
      ∃ ts t, PDSs (cxOf (L2.CX P w) P w K mg base N qual (defScope st) f cdv A outer s H E) E (defBody st) ts t ∧ t Z (Pend Φ) (dstart N ds) η) : FnOk P w K mg base (L2.CX P w) (k + 1) f fd ps (sp0 K c) := by
  refine F.okX S (fun vs H Q E h => ?_) fun cdv A outer s H vs Q E hr h => ?_
  · obtain ⟨R, η, ds, Z, Φ, l, r, hc, _⟩ := h
    rw [r.length]; exact hlen ds η Z Φ hc
  · obtain ⟨R, η, ds, Z, Φ, l, r, hc, q, qx⟩ := h
    obtain ⟨ts, t, hp, ht⟩ := hb cdv A outer s H E ds η Z Φ hr hc
    refine ⟨ts, hp.ps, hp.so R _ H _ η Z _ _ l (sl_start r) ht ⟨fun σ' H' δ' η' l' x s' h' => q _ _ H' η' l' x .non h', fun v d H' η' l' x r' h' => q v d H' η' l' x r' h', fun _ _ _ _ _ _ _ h' => h'.elim, fun _ _ _ _ _ _ _ h' => h'.elim, qx⟩⟩
end
section
variable {X : Cx} {E : XK} {k : Nat} {f : Addr} {fd : FuncData} {ps : List Str} {c : Ct} {dvs : List V} {dds : List D} {dsV : List Value} {x : Str} {p pos : Pos} {e : Expr} {es : List Expr} {ta : TA} {da : DA}
def dCall (c : Ct) (dds : List D) (da : DA) : DE := fun Z δ η Φ => da Z δ η fun ds η1 => c (ds ++ dds) η1 Z Φ
theorem so_call {K : PySem.W.Frag} (hd : ∀ R η H, Reps K R η H dvs dds) (ha : SoundG K E (Reps K) ta da) : SoundG K E (Rep K) (tCall (sp0 K c) dvs E ta) (dCall c dds da) := fun R σ H δ η Z Φ Q l s h k => by
  refine ha R σ H δ η Z _ _ l s h (k.to fun vs ds H1 η1 l1 x1 r1 h1 => ?_)
  exact ⟨R, η1, ds ++ dds, Z, Φ, l1, r1.append (hd _ _ _), h1, fun v d H' η' l' x' r' h' => k.ok v d H' η' l' (x1.trans x') r' h', fun C od x H' η' l' x' r' h' => k.ex C od x H' η' l' (x1.trans x') r' h'⟩
theorem so_nil {K : PySem.W.Frag} : SoundG K E (Reps K) tNil dNil := fun R σ H δ η Z Φ Q l s h k => k.ok [] [] H η l (Ext.refl _ _) .nil h
theorem pd_call (F : FnOk X.prog X.w X.K X.mg X.base (L2.CX X.prog X.w) k f fd ps (sp0 X.K c)) (hr : Room k X.A) (hg : Gl X x) (hm : X.mg x = some (.ref f)) (hk : PySem.W.keepIn X.K (.ref f) = true) (hb : Binds X.K fd ps dsV) (hv : Vals dvs dsV) (hd : ∀ R η H, Reps X.K R η H dvs dds)
    (ha : PDA X E (e :: es) ta da) (hdb : (x == ("__debug__" : Str)) = false := by decide) (he : starEach (e :: es) X.env = (false, eval e X.env) :: starEach es X.env := by rfl) (hpl : (backTo pos (starEach es X.env)).any (·.1) = false := by rfl) (tk : TkX X E := by first | assumption | exact takes0 | exact takes_of rfl rfl rfl rfl) :
    PD X E (.Call (.Name x p) (e :: es) [] pos) (tCall (sp0 X.K c) dvs E ta) (dCall c dds da) := ⟨pe_call F hr hg hm hk hb hv tk.pass ha.pa hdb he hpl, so_call hd ha.so⟩
end
end DL
end
section
set_option Elab.async false
set_option linter.all false
set_option autoImplicit false
set_option maxRecDepth 100000
set_option maxHeartbeats 4000000
namespace DL
open PySem PySem.Spec PyProof.Rows L2
theorem sok_append {a b : Str} (ha : SOk a) (hb : SOk b) (h : a.length + b.length ≤ sizeLine) : SOk (a ++ b) := by
  refine ⟨?_, ?_⟩
  · show PyData.strOk ⟨a.cps ++ b.cps⟩ = true
    have h1 := ha.cp
    have h2 := hb.cp
    unfold PyData.strOk at *
    rw [Array.all_append, h1, h2]
    rfl
  · show (a.cps ++ b.cps).size ≤ _
    rw [Array.size_append]
    exact h
theorem sok_sub {a : Str} {l : List Nat} (ha : SOk a) (h : ∀ c ∈ l, c ∈ a.cps.toList) (hl : l.length ≤ sizeLine) : SOk ⟨l.toArray⟩ := by
  refine ⟨?_, by show l.toArray.size ≤ _; simpa using hl⟩
  have h1 := ha.cp
  unfold PyData.strOk at *
  rw [Array.all_eq_true'] at *
  intro c hc
  exact h1 c (Array.mem_toList_iff.mp (h c (by simpa using hc)))
theorem sok_one {a : Str} {c : Nat} (ha : SOk a) (h : c ∈ a.cps.toList) : SOk ⟨#[c]⟩ :=
  sok_sub (l := [c]) ha (fun d hd => by rw [List.mem_singleton.mp hd]; exact h) (by rw [sizeLine_eq]; show 1 ≤ 16777216; omega)
mutual
def toPy : D → PyData
  | .non => .none
  | .bl b => .bool b
  | .int i => .int i
  | .str x => .str x
  | .lst xs => .list (toPys xs)
  | .tup xs => .tuple (toPys xs)
  | .ref _ => .none
  | .obj _ _ _ => .none
  | .exc _ _ _ => .none
  | .dct _ _ => .none
  | .ty _ => .none
  | .klst _ => .none
def toPys : List D → List PyData
  | [] => []
  | d :: ds => toPy d :: toPys ds
end
mutual
def pyOk : D → Bool
  | .non => true
  | .bl _ => true
  | .int _ => true
  | .str _ => true
  | .lst xs => pyOks xs
  | .tup xs => pyOks xs
  | .ref _ => false
  | .obj _ _ _ => false
  | .exc _ _ _ => false
  | .dct _ _ => false
  | .ty _ => false
  | .klst _ => false
def pyOks : List D → Bool
  | [] => true
  | d :: ds => pyOk d && pyOks ds
end
def unref (η : Eta) : D → D
  | .ref p => match η p with
    | some (.lst ds) => .lst ds
    | _ => .ref p
  | d => d
theorem toPys_eq : ∀ ds : List D, toPys ds = ds.map toPy
  | [] => rfl
  | d :: ds => by rw [toPys, List.map_cons, toPys_eq ds]
theorem pyOks_eq : ∀ ds : List D, pyOks ds = ds.all pyOk
  | [] => rfl
  | d :: ds => by rw [pyOks, List.all_cons, pyOks_eq ds]
section
variable {K : PySem.W.Frag} {R : Addr → Prop} {η : Eta} {H : Hp}
mutual
theorem rep_dp : ∀ (d : D) (v : V), Rep K R η H v d → pyOk d = true → Dp K H v (toPy d) ∧ (toPy d).canLay0 = true
  | .non, _, h, _ => by cases h; exact ⟨.non, by simp [toPy, PyData.canLay0]⟩
  | .bl _, _, h, _ => by cases h; exact ⟨.bl _, by simp [toPy, PyData.canLay0]⟩
  | .int _, _, h, _ => by cases h; exact ⟨.int _, by simp [toPy, PyData.canLay0]⟩
  | .str _, _, h, _ => by cases h with | str a => exact ⟨.str _, by simp [toPy, PyData.canLay0, a.cp]⟩
  | .lst ds, _, h, o => by
    obtain ⟨a, xs, rfl, hq, rs⟩ := h.sqL
    obtain ⟨h1, h2⟩ := reps_dp ds xs rs (by simpa [pyOk] using o)
    exact ⟨.lst hq h1, by simpa [toPy, PyData.canLay0] using h2⟩
  | .tup ds, _, h, o => by
    obtain ⟨a, xs, rfl, hq, rs⟩ := h.sqT
    obtain ⟨h1, h2⟩ := reps_dp ds xs rs (by simpa [pyOk] using o)
    exact ⟨.tup hq h1, by simpa [toPy, PyData.canLay0] using h2⟩
  | .ref _, _, _, o => by simp [pyOk] at o
  | .obj _ _ _, _, _, o => by simp [pyOk] at o
  | .exc _ _ _, _, _, o => by simp [pyOk] at o
  | .dct _ _, _, _, o => by simp [pyOk] at o
  | .ty _, _, _, o => by simp [pyOk] at o
  | .klst _, _, _, o => by simp [pyOk] at o
theorem reps_dp : ∀ (ds : List D) (vs : List V), Reps K R η H vs ds → pyOks ds = true → DpAll K H vs (toPys ds) ∧ PyData.canLayAll0 (toPys ds) = true
  | [], _, h, _ => by cases h; exact ⟨.nil, by simp [toPys, PyData.canLayAll0]⟩
  | d :: ds, _, h, o => by
    cases h with
    | cons a b =>
      simp only [pyOks, Bool.and_eq_true] at o
      obtain ⟨h1, h2⟩ := rep_dp d _ a o.1
      obtain ⟨h3, h4⟩ := reps_dp ds _ b o.2
      exact ⟨.cons h1 h3, by simp [toPys, PyData.canLayAll0, h2, h4]⟩
end
theorem unref_ref (η : Eta) (p : Addr) : (∃ ds, η p = some (.lst ds) ∧ unref η (.ref p) = .lst ds) ∨ unref η (.ref p) = .ref p := by
  cases e : η p with
  | none => exact .inr (by simp [unref, e])
  | some m =>
    cases m with
    | lst ds => exact .inl ⟨ds, rfl, by simp [unref, e]⟩
    | _ => exact .inr (by simp [unref, e])
theorem dp_of {v : V} {d : D} (l : Lk K R η H) (r : Rep K R η H v d) (o : pyOk (unref η d) = true) : Dp K H v (toPy (unref η d)) ∧ (toPy (unref η d)).canLay0 = true := by
  cases d with
  | ref p =>
    rcases unref_ref η p with ⟨ds, e, e2⟩ | e2
    · rw [e2] at o ⊢
      cases r
      obtain ⟨xs, h1, h2⟩ := l.m p _ e
      obtain ⟨h3, h4⟩ := reps_dp ds xs h2 (by simpa [pyOk] using o)
      exact ⟨.lst (SqL.of h1) h3, by simpa [toPy, PyData.canLay0] using h4⟩
    · rw [e2] at o; simp [pyOk] at o
  | _ => exact rep_dp _ _ r o
/-- what can be walked as a list or a tuple -/
def asS (η : Eta) : D → Option (List D)
  | .lst xs => some xs
  | .tup xs => some xs
  | .ref p => match η p with
    | some (.lst xs) => some xs
    | _ => none
  | _ => none
theorem asL_ref {p : Addr} {ds : List D} (h : asL η (.ref p) = some ds) : η p = some (.lst ds) := by
  cases e : η p with
  | none => simp [asL, e] at h
  | some m =>
    cases m with
    | lst xs => simp [asL, e] at h; rw [h]
    | _ => simp [asL, e] at h
theorem asS_ref {p : Addr} {ds : List D} (h : asS η (.ref p) = some ds) : η p = some (.lst ds) := by
  cases e : η p with
  | none => simp [asS, e] at h
  | some m =>
    cases m with
    | lst xs => simp [asS, e] at h; rw [h]
    | _ => simp [asS, e] at h
theorem asL_ok {v : V} {d : D} {ds : List D} (l : Lk K R η H) (r : Rep K R η H v d) (h : asL η d = some ds) : ∃ a xs, v = .ref a ∧ Rd H a (.lst xs) ∧ Reps K R η H xs ds := by
  cases d with
  | lst xs => cases h; exact r.rdL
  | ref p =>
    cases r
    obtain ⟨ys, h1, h2⟩ := l.m p _ (asL_ref h)
    exact ⟨p, ys, rfl, .inl h1, h2⟩
  | _ => cases h
theorem asS_ok {v : V} {d : D} {ds : List D} (l : Lk K R η H) (r : Rep K R η H v d) (h : asS η d = some ds) : ∃ a xs, v = .ref a ∧ (SqL K H a xs ∨ SqT K H a xs) ∧ Reps K R η H xs ds := by
  cases d with
  | lst xs => cases h; obtain ⟨a, xs, e, q, s⟩ := r.sqL; exact ⟨a, xs, e, .inl q, s⟩
  | tup xs => cases h; obtain ⟨a, xs, e, q, s⟩ := r.sqT; exact ⟨a, xs, e, .inr q, s⟩
  | ref p =>
    cases r
    obtain ⟨ys, h1, h2⟩ := l.m p _ (asS_ref h)
    exact ⟨p, ys, rfl, .inl (SqL.of h1), h2⟩
  | _ => cases h
/-- a new list, a new tuple -/
theorem new_lst {vs : List V} {ds : List D} {Φ : DK} {Q : VK} (l : Lk K R η H) (r : Reps K R η H vs ds) (h : Φ (.lst ds) η) (k : ∀ v d H' η', Lk K R η' H' → Ext η H η' H' → Rep K R η' H' v d → Φ d η' → Q v H') : ∀ p, H p = none → Q (.ref p) (upd H p (.lst vs)) := fun p hp =>
  k _ _ _ η (l.new hp) (Ext.new hp) (.lst (.inl upd_same) (l.free hp) (l.nr hp) (r.up (Ext.new hp))) h
theorem new_tup {vs : List V} {ds : List D} {Φ : DK} {Q : VK} (l : Lk K R η H) (r : Reps K R η H vs ds) (h : Φ (.tup ds) η) (k : ∀ v d H' η', Lk K R η' H' → Ext η H η' H' → Rep K R η' H' v d → Φ d η' → Q v H') : ∀ p, H p = none → Q (.ref p) (upd H p (.tup vs)) := fun p hp =>
  k _ _ _ η (l.new hp) (Ext.new hp) (.tup (.inl upd_same) (l.free hp) (l.nr hp) (r.up (Ext.new hp))) h
end
def dEqv (a b : D) : Bool := PyData.eqv (toPy a) (toPy b)
def dDep (a b : D) : Prop := min (toPy a).depth (toPy b).depth ≤ 60
theorem OpR.or {X : Cx} {f : Value → Value → Sem Value} {r r' : R2} (h : OpR X f r) (h' : OpR X f r') : OpR X f (fun x y H Q => r x y H Q ∨ r' x y H Q) := by
  intro pins s σ H x y v u Q I rx ry q
  rcases q with q | q
  · exact h pins s σ H x y v u Q I rx ry q
  · exact h' pins s σ H x y v u Q I rx ry q
section
variable {X : Cx}
def rEqG (K : PySem.W.Frag) : R2 := fun x y H Q => ∃ d e, Dp K H x d ∧ Dp K H y e ∧ d.canLay0 = true ∧ e.canLay0 = true ∧ min d.depth e.depth ≤ 60 ∧ Q (.bl (PyData.eqv d e)) H
def rNeG (K : PySem.W.Frag) : R2 := fun x y H Q => ∃ d e, Dp K H x d ∧ Dp K H y e ∧ d.canLay0 = true ∧ e.canLay0 = true ∧ min d.depth e.depth ≤ 60 ∧ Q (.bl (!PyData.eqv d e)) H
theorem op_eqG (hu : X.A.units + 64 < cLine) : OpR X (compareOp .Eq) (rEqG X.K) := by
  intro pins s σ H x y v u Q I rx ry h
  obtain ⟨d, e, hd, he, sd, se, hm, q⟩ := h
  obtain ⟨as, r1⟩ := Dp.reads I d x v hd rx
  obtain ⟨bs, r2⟩ := Dp.reads I e y u he ry
  exact SeqAt.compareEq_reads r1 r2 sd se (by omega) ⟨.bl _, H, I, rfl, q⟩
theorem op_neG (hu : X.A.units + 64 < cLine) : OpR X (compareOp .NotEq) (rNeG X.K) := by
  intro pins s σ H x y v u Q I rx ry h
  obtain ⟨d, e, hd, he, sd, se, hm, q⟩ := h
  obtain ⟨as, r1⟩ := Dp.reads I d x v hd rx
  obtain ⟨bs, r2⟩ := Dp.reads I e y u he ry
  exact SeqAt.compareNe_reads r1 r2 sd se (by omega) ⟨.bl _, H, I, rfl, q⟩
def oEq : DR2 := fun x y η Φ => pyOk (unref η x) = true ∧ pyOk (unref η y) = true ∧ dDep (unref η x) (unref η y) ∧ Φ (.bl (dEqv (unref η x) (unref η y))) η
def oNe : DR2 := fun x y η Φ => pyOk (unref η x) = true ∧ pyOk (unref η y) = true ∧ dDep (unref η x) (unref η y) ∧ Φ (.bl (!dEqv (unref η x) (unref η y))) η
theorem od_eq (hu : X.A.units + 64 < cLine) : OpD X (compareOp .Eq) (rEqG X.K) oEq := ⟨op_eqG hu, fun R η H x y dx dy Φ Q l rx ry h k => by
  obtain ⟨o1, o2, o3, h⟩ := h
  obtain ⟨h1, h2⟩ := dp_of l rx o1
  obtain ⟨h3, h4⟩ := dp_of l ry o2
  exact ⟨_, _, h1, h3, h2, h4, o3, k _ _ H η l (Ext.refl _ _) (.bl _) h⟩⟩
theorem od_ne (hu : X.A.units + 64 < cLine) : OpD X (compareOp .NotEq) (rNeG X.K) oNe := ⟨op_neG hu, fun R η H x y dx dy Φ Q l rx ry h k => by
  obtain ⟨o1, o2, o3, h⟩ := h
  obtain ⟨h1, h2⟩ := dp_of l rx o1
  obtain ⟨h3, h4⟩ := dp_of l ry o2
  exact ⟨_, _, h1, h3, h2, h4, o3, k _ _ H η l (Ext.refl _ _) (.bl _) h⟩⟩
def oI (C : Int → Int → Prop) (g : Int → Int → D) : DR2 := fun x y η Φ => ∃ i j, x = .int i ∧ y = .int j ∧ C i j ∧ Φ (g i j) η
def CT : Int → Int → Prop := fun _ _ => True
theorem so_I {K : PySem.W.Frag} {C : Int → Int → Prop} {g : Int → Int → V} {gd : Int → Int → D} (hg : ∀ i j R η H, Rep K R η H (g i j) (gd i j)) : SoundR2 K (rI C g) (oI C gd) := fun R η H x y dx dy Φ Q l rx ry h k => by
  obtain ⟨i, j, rfl, rfl, hc, h⟩ := h
  cases rx
  cases ry
  exact ⟨i, j, rfl, rfl, hc, k _ _ H η l (Ext.refl _ _) (hg i j R η H) h⟩
theorem rI0_of {f : Value → Value → Sem Value} {g : Int → Int → V} (h : OpR X f (rI0 g)) : OpR X f (rI CT g) := fun pins s σ H x y v u Q I rx ry q => by
  obtain ⟨i, j, e1, e2, _, q⟩ := q
  exact h pins s σ H x y v u Q I rx ry ⟨i, j, e1, e2, q⟩
theorem od_fdiv : OpD X (binaryOp .FloorDiv) (rI CDivW fun i j => .int (i / j)) (oI CDivW fun i j => .int (i / j)) := ⟨op_fdivW, so_I fun _ _ _ _ _ => .int _⟩
theorem od_mod : OpD X (binaryOp .Mod) (rI (fun _ j => 0 < j) fun i j => .int (i % j)) (oI (fun _ j => 0 < j) fun i j => .int (i % j)) := ⟨op_mod, so_I fun _ _ _ _ _ => .int _⟩
theorem od_pow : OpD X (binaryOp .Pow) (rI CPow fun i j => .int (i ^ j.toNat)) (oI CPow fun i j => .int (i ^ j.toNat)) := ⟨op_pow, so_I fun _ _ _ _ _ => .int _⟩
def CMulU (i j : Int) : Prop := CMul i j ∨ CMulW i j
theorem op_mulU : OpR X (binaryOp .Mult) (rI CMulU fun i j => .int (i * j)) := fun pins s σ H x y v u Q I rx ry q => by
  obtain ⟨i, j, e1, e2, hc, q⟩ := q
  rcases hc with hc | hc
  · exact op_mul pins s σ H x y v u Q I rx ry ⟨i, j, e1, e2, hc, q⟩
  · exact op_mulW pins s σ H x y v u Q I rx ry ⟨i, j, e1, e2, hc, q⟩
def oMul : DR2 := oI CMulU fun i j => .int (i * j)
theorem od_mul : OpD X (binaryOp .Mult) (rI CMulU fun i j => .int (i * j)) oMul := ⟨op_mulU, so_I fun _ _ _ _ _ => .int _⟩
theorem od_lt : OpD X (compareOp .Lt) (rI CT fun i j => .bl (decide (i < j))) (oI CT fun i j => .bl (decide (i < j))) := ⟨rI0_of op_lt, so_I fun _ _ _ _ _ => .bl _⟩
theorem od_le : OpD X (compareOp .LtE) (rI CT fun i j => .bl (decide (i ≤ j))) (oI CT fun i j => .bl (decide (i ≤ j))) := ⟨rI0_of op_le, so_I fun _ _ _ _ _ => .bl _⟩
theorem od_gt : OpD X (compareOp .Gt) (rI CT fun i j => .bl (decide (j < i))) (oI CT fun i j => .bl (decide (j < i))) := ⟨rI0_of op_gt, so_I fun _ _ _ _ _ => .bl _⟩
theorem od_ge : OpD X (compareOp .GtE) (rI CT fun i j => .bl (decide (j ≤ i))) (oI CT fun i j => .bl (decide (j ≤ i))) := ⟨rI0_of op_ge, so_I fun _ _ _ _ _ => .bl _⟩
theorem Inv.lstR {pins : List (Addr × Obj)} {σ : L2.St} {H : Hp} {s : Shared} {l : Addr} {xs : List V} (I : Inv X pins σ H s) (hH : Rd H l (.lst xs)) : xs.length ≤ sizeLine ∧ ∃ (its : List Value) (n : Nat), Vals xs its ∧ xs.length = its.length ∧ s.heap.get? l = some { cls := .type "list", data := .seq its.toArray n } := by
  obtain ⟨z, its, n, r, e⟩ := hH.ok I.hok
  exact ⟨z, its, n, r, r.length, e⟩
def rCatR : R2 := fun x y H Q => ∃ l b xs zs, x = .ref l ∧ y = .ref b ∧ Rd H l (.lst xs) ∧ Rd H b (.lst zs) ∧ xs.length + zs.length ≤ sizeLine ∧ ∀ p, H p = none → Q (.ref p) (upd H p (.lst (xs ++ zs)))
theorem op_catR : OpR X (binaryOp .Add) rCatR := by
  intro pins s σ H x y v u Q I rx ry h
  obtain ⟨l, b, xs, zs, rfl, rfl, hH, hB, hz, q⟩ := h
  cases rx
  cases ry
  obtain ⟨z, its, n, r, hl, e⟩ := Inv.lstR I hH
  obtain ⟨z2, its2, n2, r2, hl2, e2⟩ := Inv.lstR I hB
  refine PySem.P.add_list e e2 ?_ (by rw [List.size_toArray, List.size_toArray]; omega)
  have ea : its.toArray ++ its2.toArray = (its ++ its2).toArray := by simp
  rw [ea]
  exact ⟨.ref _, _, I.lnew (t' := s.toks) (r.append r2) (by rw [List.length_append]; omega), rfl, q _ I.fresh⟩
def rAddStr : R2 := fun x y H Q => ∃ i j, x = .str i ∧ y = .str j ∧ i.length + j.length ≤ sizeLine ∧ Q (.str (i ++ j)) H
def rAddU (K : PySem.W.Frag) : R2 := fun x y H Q => (((rI CT fun i j => .int (i + j)) x y H Q ∨ rAddStr x y H Q) ∨ rCatR x y H Q) ∨ rCatA K x y H Q
theorem op_addU : OpR X (binaryOp .Add) (rAddU X.K) := OpR.or (OpR.or (OpR.or (rI0_of op_add) op_add_str) op_catR) op_catA
def oAdd : DR2 := fun x y η Φ => match x, y with
  | .int i, .int j => Φ (.int (i + j)) η
  | .str a, .str b => a.length + b.length ≤ sizeLine ∧ Φ (.str (a ++ b)) η
  | .tup a, .tup b => a.length + b.length ≤ sizeLine ∧ Φ (.tup (a ++ b)) η
  | .lst a, .lst b => a.length + b.length ≤ sizeLine ∧ Φ (.lst (a ++ b)) η
  | x, y => ∃ a b, asL η x = some a ∧ asL η y = some b ∧ a.length + b.length ≤ sizeLine ∧ Φ (.lst (a ++ b)) η
theorem so_cat {K : PySem.W.Frag} {R : Addr → Prop} {η : Eta} {H : Hp} {x y : V} {dx dy : D} {Φ : DK} {Q : VK} (l : Lk K R η H) (rx : Rep K R η H x dx) (ry : Rep K R η H y dy) (h : ∃ a b, asL η dx = some a ∧ asL η dy = some b ∧ a.length + b.length ≤ sizeLine ∧ Φ (.lst (a ++ b)) η)
    (k : ∀ v d H' η', Lk K R η' H' → Ext η H η' H' → Rep K R η' H' v d → Φ d η' → Q v H') : rAddU K x y H Q := by
  obtain ⟨a, b, ha, hb, hl, h⟩ := h
  obtain ⟨p, xs, rfl, h1, h2⟩ := asL_ok l rx ha
  obtain ⟨q, ys, rfl, h3, h4⟩ := asL_ok l ry hb
  exact .inl (.inr ⟨p, q, xs, ys, rfl, rfl, h1, h3, by rw [h2.length, h4.length]; exact hl, new_lst l (h2.append h4) h k⟩)
theorem od_add : OpD X (binaryOp .Add) (rAddU X.K) oAdd := ⟨op_addU, fun R η H x y dx dy Φ Q l rx ry h k => by
  unfold oAdd at h
  split at h
  · cases rx; cases ry
    exact .inl (.inl (.inl ⟨_, _, rfl, rfl, True.intro, k _ _ H η l (Ext.refl _ _) (.int _) h⟩))
  · cases rx with
    | str o1 =>
      cases ry with
      | str o2 => exact .inl (.inl (.inr ⟨_, _, rfl, rfl, h.1, k _ _ H η l (Ext.refl _ _) (.str (sok_append o1 o2 h.1)) h.2⟩))
  · obtain ⟨p, xs, rfl, h1, h2⟩ := rx.sqT
    obtain ⟨q, ys, rfl, h3, h4⟩ := ry.sqT
    refine .inr ⟨p, q, xs, ys, rfl, rfl, h1, h3, by rw [h2.length, h4.length]; exact h.1, fun e => ?_, fun e1 e => ?_, fun _ _ => new_tup l (h2.append h4) h.2 k⟩
    · have := h2.nil_iff.mp e
      subst this
      exact k _ _ H η l (Ext.refl _ _) ry h.2
    · have := h4.nil_iff.mp e
      subst this
      rw [List.append_nil] at h
      exact k _ _ H η l (Ext.refl _ _) rx h.2
  · exact so_cat l rx ry ⟨_, _, rfl, rfl, h⟩ k
  · exact so_cat l rx ry h k⟩
def rIxU (K : PySem.W.Frag) : R2 := rIx K
def oIx : DR2 := fun x y η Φ => match x, y with
  | .str a, .int i => ∃ c, atI a.cps.toList i = some c ∧ Φ (.str ⟨#[c]⟩) η
  | x, .int i => ∃ xs d, asS η x = some xs ∧ atI xs i = some d ∧ Φ d η
  | _, _ => False
theorem Reps.atI {K : PySem.W.Frag} {R : Addr → Prop} {η : Eta} {H : Hp} {vs : List V} {ds : List D} {i : Int} {d : D} (r : Reps K R η H vs ds) (h : L2.atI ds i = some d) : ∃ v, L2.atI vs i = some v ∧ Rep K R η H v d := by
  unfold L2.atI at *
  rw [r.length]
  cases e : ixN ds.length i with
  | none => rw [e] at h; cases h
  | some j =>
    rw [e] at h
    obtain ⟨v, h1, h2⟩ := r.get (i := j) (d := d) h
    exact ⟨v, h1, h2⟩
theorem atI_mem {α : Type} {xs : List α} {i : Int} {x : α} (h : L2.atI xs i = some x) : x ∈ xs := by
  obtain ⟨j, _, h, _⟩ := atI_get h
  exact List.mem_of_getElem? h
theorem so_ix {K : PySem.W.Frag} {R : Addr → Prop} {η : Eta} {H : Hp} {x : V} {dx : D} {i : Int} {Φ : DK} {Q : VK} (l : Lk K R η H) (rx : Rep K R η H x dx) (h : ∃ xs d, asS η dx = some xs ∧ L2.atI xs i = some d ∧ Φ d η)
    (k : ∀ v d H' η', Lk K R η' H' → Ext η H η' H' → Rep K R η' H' v d → Φ d η' → Q v H') : rIxU K x (.int i) H Q := by
  obtain ⟨xs, d, h1, h2, h⟩ := h
  obtain ⟨a, vs, rfl, h3, h4⟩ := asS_ok l rx h1
  obtain ⟨v, h5, h6⟩ := h4.atI h2
  rcases h3 with h3 | h3
  · exact .inl ⟨a, vs, i, v, rfl, rfl, h3, h5, k _ _ H η l (Ext.refl _ _) h6 h⟩
  · exact .inr (.inl ⟨a, vs, i, v, rfl, rfl, h3, h5, k _ _ H η l (Ext.refl _ _) h6 h⟩)
theorem ixd : IxD X (rIxU X.K) oIx := ⟨ix_seq, fun R η H x y dx dy Φ Q l rx ry h k => by
  unfold oIx at h
  split at h
  · obtain ⟨c, hc, h⟩ := h
    cases rx with
    | str o =>
      cases ry
      exact .inr (.inr ⟨_, _, c, rfl, rfl, o.len, hc, k _ _ H η l (Ext.refl _ _) (.str (sok_one o (atI_mem hc))) h⟩)
  · cases ry
    exact so_ix l rx h k
  · exact h.elim⟩
def cutD (xs : List D) (lo hi : Option Int) : List D := (xs.drop (HT.sIx xs.length 0 lo)).take (HT.sIx xs.length xs.length hi - HT.sIx xs.length 0 lo)
def rSlU (K : PySem.W.Frag) : RSl := fun x lo hi H Q => (rSlL K x lo hi H Q ∨ rSlA K x lo hi H Q) ∨ ∃ z, x = .str z ∧ z.length ≤ sizeLine ∧ Q (.str (cutS z lo hi)) H
def oSl : DSl := fun x lo hi η Φ => match x with
  | .str z => Φ (.str (cutS z lo hi)) η
  | .tup xs => Φ (.tup (cutD xs lo hi)) η
  | .lst xs => Φ (.lst (cutD xs lo hi)) η
  | .klst xs => Φ (.lst (cutD xs lo hi)) η
  | x => ∃ xs, asL η x = some xs ∧ Φ (.lst (cutD xs lo hi)) η
theorem Reps.cut {K : PySem.W.Frag} {R : Addr → Prop} {η : Eta} {H : Hp} {vs : List V} {ds : List D} {lo hi : Option Int} (r : Reps K R η H vs ds) : Reps K R η H (cutV vs lo hi) (cutD ds lo hi) := by
  unfold cutV cutD
  rw [r.length]
  exact (r.drop _).take _
theorem so_slL {K : PySem.W.Frag} {R : Addr → Prop} {η : Eta} {H : Hp} {x : V} {dx : D} {lo hi : Option Int} {Φ : DK} {Q : VK} (l : Lk K R η H) (rx : Rep K R η H x dx) (h : ∃ xs, asL η dx = some xs ∧ Φ (.lst (cutD xs lo hi)) η)
    (k : ∀ v d H' η', Lk K R η' H' → Ext η H η' H' → Rep K R η' H' v d → Φ d η' → Q v H') : rSlU K x lo hi H Q := by
  obtain ⟨xs, h1, h⟩ := h
  obtain ⟨a, vs, rfl, h3, h4⟩ := asL_ok l rx h1
  exact .inl (.inl ⟨a, vs, rfl, .inl h3, new_lst l h4.cut h k⟩)
theorem cutS_cps (z : Str) (lo hi : Option Int) : ∃ l : List Nat, cutS z lo hi = ⟨l.toArray⟩ ∧ (∀ c ∈ l, c ∈ z.cps.toList) ∧ l.length ≤ z.length := by
  refine ⟨(z.cps.toList.drop (HT.sIx z.length 0 lo)).take (HT.sIx z.length z.length hi - HT.sIx z.length 0 lo), rfl, fun c hc => List.mem_of_mem_drop (List.mem_of_mem_take hc), ?_⟩
  rw [List.length_take, List.length_drop]
  show _ ≤ z.cps.size
  simp only [Array.length_toList]
  omega
theorem sld : SlD X (rSlU X.K) oSl := ⟨sl_list.or sl_tupA |>.or sl_str, fun R η H x dx lo hi Φ Q l rx h k => by
  unfold oSl at h
  split at h
  · cases rx with
    | str o =>
      refine .inr ⟨_, rfl, o.len, k _ _ H η l (Ext.refl _ _) (.str ?_) h⟩
      obtain ⟨l, e, h1, h2⟩ := cutS_cps _ lo hi
      rw [e]
      exact sok_sub o h1 (Nat.le_trans h2 o.len)
  · obtain ⟨a, vs, rfl, h3, h4⟩ := rx.sqT
    refine .inl (.inr ⟨a, vs, rfl, h3, fun hw => ?_, fun _ => new_tup l h4.cut h k⟩)
    refine k _ _ H η l (Ext.refl _ _) rx ?_
    unfold cutD at h
    rw [← h4.length, hw.1, hw.2, h4.length, List.drop_zero, Nat.sub_zero, List.take_length] at h
    exact h
  · exact so_slL l rx ⟨_, rfl, h⟩ k
  · cases rx with
    | klst a b r c => exact .inl (.inl ⟨_, _, rfl, .inl a, new_lst l c.cut h k⟩)
    | klstK a1 a2 a3 a4 a5 a6 c => exact .inl (.inl ⟨_, _, rfl, .inr ⟨_, _, _, a1, a2, a3, a4, a5, a6⟩, new_lst l c.cut h k⟩)
  · exact so_slL l rx h k⟩
def rInG (K : PySem.W.Frag) : R2 := fun x y H Q => ∃ d ds, Dp K H x d ∧ (Dp K H y (.list ds) ∨ Dp K H y (.tuple ds)) ∧ d.canLay0 = true ∧ PyData.canLayAll0 ds = true ∧ min (PyData.depthAll ds) d.depth ≤ 60 ∧ Q (.bl (ds.any fun z => PyData.eqv z d)) H
theorem op_inG (hu : X.A.units + 64 < cLine) : OpR X (compareOp .In) (rInG X.K) := by
  intro pins s σ H x y v u Q I rx ry h
  obtain ⟨d, ds, hd, he, sd, se, hm, q⟩ := h
  obtain ⟨as, r1⟩ := Dp.reads I d x v hd rx
  rcases he with he | he
  · obtain ⟨bs, r2⟩ := Dp.reads I (.list ds) y u he ry
    exact SeqAt.in_list_reads r2 r1 se sd (by omega) ⟨.bl _, H, I, rfl, q⟩
  · obtain ⟨bs, r2⟩ := Dp.reads I (.tuple ds) y u he ry
    exact SeqAt.in_tuple_reads r2 r1 se sd (by omega) ⟨.bl _, H, I, rfl, q⟩
def rInSg : R2 := fun x y H Q => ∃ (c : Nat) (z : Str), x = .str ⟨#[c]⟩ ∧ y = .str z ∧ Q (.bl (decide (c ∈ z.cps.toList))) H
def rInU (K : PySem.W.Frag) : R2 := fun x y H Q => rInG K x y H Q ∨ rInSg x y H Q
def dIn (x : D) (xs : List D) : Bool := xs.any fun z => dEqv z x
def oInB (neg : Bool) : DR2 := fun x y η Φ => match y with
  | .str z => ∃ c, x = .str ⟨#[c]⟩ ∧ Φ (.bl (neg ^^ decide (c ∈ z.cps.toList))) η
  | y => ∃ xs, asS η y = some xs ∧ pyOk (unref η x) = true ∧ pyOks xs = true ∧ min (PyData.depthAll (toPys xs)) (toPy (unref η x)).depth ≤ 60 ∧ Φ (.bl (neg ^^ dIn (unref η x) xs)) η
theorem dIn_py (x : D) (xs : List D) : dIn x xs = (toPys xs).any fun z => PyData.eqv z (toPy x) := by
  rw [toPys_eq, List.any_map]; rfl
theorem asS_dp {K : PySem.W.Frag} {R : Addr → Prop} {η : Eta} {H : Hp} {v : V} {d : D} {ds : List D} (l : Lk K R η H) (r : Rep K R η H v d) (h : asS η d = some ds) (o : pyOks ds = true) : (Dp K H v (.list (toPys ds)) ∨ Dp K H v (.tuple (toPys ds))) ∧ PyData.canLayAll0 (toPys ds) = true := by
  obtain ⟨a, xs, rfl, h1, h2⟩ := asS_ok l r h
  obtain ⟨h3, h4⟩ := reps_dp ds xs h2 o
  rcases h1 with h1 | h1
  · exact ⟨.inl (.lst h1 h3), h4⟩
  · exact ⟨.inr (.tup h1 h3), h4⟩
theorem so_in {K : PySem.W.Frag} {R : Addr → Prop} {η : Eta} {H : Hp} {x y : V} {dx dy : D} {neg : Bool} {Φ : DK} (l : Lk K R η H) (rx : Rep K R η H x dx) (ry : Rep K R η H y dy)
    (h : ∃ xs, asS η dy = some xs ∧ pyOk (unref η dx) = true ∧ pyOks xs = true ∧ min (PyData.depthAll (toPys xs)) (toPy (unref η dx)).depth ≤ 60 ∧ Φ (.bl (neg ^^ dIn (unref η dx) xs)) η) :
    ∃ d ds, Dp K H x d ∧ (Dp K H y (.list ds) ∨ Dp K H y (.tuple ds)) ∧ d.canLay0 = true ∧ PyData.canLayAll0 ds = true ∧ min (PyData.depthAll ds) d.depth ≤ 60 ∧ Φ (.bl (neg ^^ (ds.any fun z => PyData.eqv z d))) η := by
  obtain ⟨xs, h1, h2, h3, h4, h⟩ := h
  obtain ⟨h5, h6⟩ := dp_of l rx h2
  obtain ⟨h7, h8⟩ := asS_dp l ry h1 h3
  exact ⟨_, _, h5, h7, h6, h8, h4, by rw [← dIn_py]; exact h⟩
theorem od_in (hu : X.A.units + 64 < cLine) : OpD X (compareOp .In) (rInU X.K) (oInB false) := ⟨OpR.or (op_inG hu) op_in_sign, fun R η H x y dx dy Φ Q l rx ry h k => by
  unfold oInB at h
  split at h
  · obtain ⟨c, rfl, h⟩ := h
    cases rx; cases ry
    exact .inr ⟨c, _, rfl, rfl, k _ _ H η l (Ext.refl _ _) (.bl _) (by simpa using h)⟩
  · obtain ⟨d, ds, h1, h2, h3, h4, h5, h⟩ := so_in l rx ry h
    exact .inl ⟨d, ds, h1, h2, h3, h4, h5, k _ _ H η l (Ext.refl _ _) (.bl _) (by simpa using h)⟩⟩
def rLenU (K : PySem.W.Frag) : RCl := fun xs H Q => (∃ p ys, xs = [.ref p] ∧ (SqL K H p ys ∨ SqT K H p ys) ∧ Q (.int ys.length) H) ∨ ∃ z, xs = [.str z] ∧ z.length ≤ sizeLine ∧ Q (.int z.length) H
def oLen : DCl := fun ds η Φ => match ds with
  | [.str z] => Φ (.int z.length) η
  | [x] => ∃ xs, asS η x = some xs ∧ Φ (.int xs.length) η
  | _ => False
theorem cl_len : ClD X (.builtin "len") (rLenU X.K) oLen := ⟨call_len_seq.or call_len_str, fun R η H xs ds Φ Q l r h k => by
  unfold oLen at h
  split at h
  · cases r with
    | cons r1 r2 =>
      cases r2
      cases r1 with
      | str o => exact .inr ⟨_, rfl, o.len, k _ _ H η l (Ext.refl _ _) (.int _) h⟩
  · cases r with
    | cons r1 r2 =>
      cases r2
      obtain ⟨xs, h1, h⟩ := h
      obtain ⟨a, vs, rfl, h2, h3⟩ := asS_ok l r1 h1
      exact .inl ⟨a, vs, rfl, h2, k _ _ H η l (Ext.refl _ _) (.int _) (by rw [h3.length]; exact h)⟩
  · exact h.elim⟩
def b2I (b : Bool) : Int := if b then 1 else 0
def oInt : DCl := fun ds η Φ => match ds with
  | [.int i] => Φ (.int i) η
  | [.bl k] => Φ (.int (b2I k)) η
  | _ => False
def rInt : RCl := fun xs H Q => (∃ i, xs = [.int i] ∧ Q (.int i) H) ∨ ∃ k, xs = [.bl k] ∧ Q (.int (if k then 1 else 0)) H
theorem cl_int : ClD X (.type "int") rInt oInt := ⟨call_int1, fun R η H xs ds Φ Q l r h k => by
  unfold oInt at h
  split at h
  · cases r with
    | cons r1 r2 => cases r2; cases r1; exact .inl ⟨_, rfl, k _ _ H η l (Ext.refl _ _) (.int _) h⟩
  · cases r with
    | cons r1 r2 => cases r2; cases r1; exact .inr ⟨_, rfl, k _ _ H η l (Ext.refl _ _) (.int _) h⟩
  · exact h.elim⟩
def rListU (K : PySem.W.Frag) : RCl := fun xs H Q => ∃ p ys, xs = [.ref p] ∧ (SqL K H p ys ∨ SqT K H p ys) ∧ ∀ l, H l = none → Q (.ref l) (upd H l (.lst ys))
def oList : DCl := fun ds η Φ => ∃ x xs, ds = [x] ∧ asS η x = some xs ∧ Φ (.lst xs) η
theorem cl_list : ClD X (.type "list") (rListU X.K) oList := ⟨call_list_of, fun R η H xs ds Φ Q l r h k => by
  obtain ⟨x, ys, rfl, h1, h⟩ := h
  cases r with
  | cons r1 r2 =>
    cases r2
    obtain ⟨a, vs, rfl, h2, h3⟩ := asS_ok l r1 h1
    exact ⟨a, vs, rfl, h2, new_lst l h3 h k⟩⟩
def rTupU (K : PySem.W.Frag) : RCl := fun xs H Q => ∃ p ys, xs = [.ref p] ∧ ((SqL K H p ys ∧ ∀ l, H l = none → Q (.ref l) (upd H l (.tup ys))) ∨ (SqT K H p ys ∧ Q (.ref p) H))
def oTup : DCl := fun ds η Φ => ∃ x xs, ds = [x] ∧ asS η x = some xs ∧ Φ (.tup xs) η
theorem cl_tuple : ClD X (.type "tuple") (rTupU X.K) oTup := ⟨call_tuple_of, fun R η H xs ds Φ Q l r h k => by
  obtain ⟨x, ys, rfl, h1, h⟩ := h
  cases r with
  | cons r1 r2 =>
    cases r2
    cases x with
    | tup zs =>
      cases h1
      obtain ⟨a, vs, rfl, h2, h3⟩ := r1.sqT
      exact ⟨a, vs, rfl, .inr ⟨h2, k _ _ H η l (Ext.refl _ _) r1 h⟩⟩
    | lst zs =>
      cases h1
      obtain ⟨a, vs, rfl, h2, h3⟩ := r1.sqL
      exact ⟨a, vs, rfl, .inl ⟨h2, new_tup l h3 h k⟩⟩
    | ref p =>
      obtain ⟨a, vs, rfl, h2, h3⟩ := asL_ok l r1 (show asL η (.ref p) = some ys from h1)
      exact ⟨a, vs, rfl, .inl ⟨.inl h2, new_tup l h3 h k⟩⟩
    | _ => cases h1⟩
def oAll : DCl := fun ds η Φ => ∃ (x : D) (bs : List Bool), ds = [x] ∧ asL η x = some (bs.map D.bl) ∧ Φ (.bl (bs.all id)) η
theorem cl_all (hc : X.calm = true) : ClD X (.builtin "all") (rAll X.K) oAll := ⟨cr_all hc, fun R η H xs ds Φ Q l r h k => by
  obtain ⟨x, bs, rfl, h1, h⟩ := h
  cases r with
  | cons r1 r2 =>
    cases r2
    obtain ⟨a, vs, rfl, h2, h3⟩ := asL_ok l r1 h1
    exact ⟨a, bs, rfl, by rw [← h3.bls]; exact .inl h2, k _ _ H η l (Ext.refl _ _) (.bl _) h⟩⟩
def tyN (η : Eta) : D → Option String
  | .non => some "NoneType"
  | .bl _ => some "bool"
  | .int _ => some "int"
  | .str _ => some "str"
  | .lst _ => some "list"
  | .tup _ => some "tuple"
  | .dct _ _ => some "dict"
  | .ref p => match η p with
    | some (.lst _) => some "list"
    | some (.dct _ _) => some "dict"
    | _ => none
  | _ => none
def isiB (a n : String) : Bool := a == n || (a == "bool" && n == "int")
def tyNames : List String := ["int", "bool", "str", "list", "tuple", "dict"]
theorem kitB_ok : ∀ a ∈ "NoneType" :: tyNames, ∀ n ∈ tyNames, kitB a n = some (isiB a n) := by decide +kernel
theorem tyN_ok {K : PySem.W.Frag} {R : Addr → Prop} {η : Eta} {H : Hp} {v : V} {d : D} {a : String} (l : Lk K R η H) (r : Rep K R η H v d) (h : tyN η d = some a) : TyX K H v (.type a) ∧ a ∈ "NoneType" :: tyNames := by
  cases r with
  | non => cases h; exact ⟨.base .non, by decide⟩
  | bl b => cases h; exact ⟨.base (.bl b), by decide⟩
  | int b => cases h; exact ⟨.base (.int b), by decide⟩
  | str o => cases h; exact ⟨.base (.str _), by decide⟩
  | ty n => cases h
  | obj _ _ _ _ _ => cases h
  | exc _ _ _ => cases h
  | klst _ _ _ _ => cases h
  | klstK _ _ _ _ _ _ _ => cases h
  | lst q _ _ _ => cases h; rcases q with q | ⟨o, q⟩; exact ⟨.base (.lst q), by decide⟩; exact ⟨.base (.frz q), by decide⟩
  | tup q _ _ _ => cases h; rcases q with q | ⟨o, q⟩; exact ⟨.base (.tup q), by decide⟩; exact ⟨.fTuple q, by decide⟩
  | tupK a1 a2 a3 a4 a5 a6 => cases h; exact ⟨.kTuple a1 a2, by decide⟩
  | dct q _ _ _ _ => cases h; exact ⟨.fDict q, by decide⟩
  | ref p =>
    cases e : η p with
    | none => simp [tyN, e] at h
    | some m =>
      cases m with
      | lst ds =>
        simp [tyN, e] at h
        subst h
        obtain ⟨xs, q, _⟩ := l.m p _ e
        exact ⟨.base (.lst q), by decide⟩
      | dct ks ds =>
        simp [tyN, e] at h
        subst h
        obtain ⟨xs, q, _⟩ := l.m p _ e
        exact ⟨.base (.dK q), by decide⟩
      | ins C ns ds => simp [tyN, e] at h
def rIsiR (K : PySem.W.Frag) : RCl := fun xs H Q => ∃ (x : V) (tp : Addr) (cs : List V) (t : Value) (us : List Value) (b : Bool), xs = [x, .ref tp] ∧ Rd H tp (.tup cs) ∧ Paired ClsV cs us ∧ TyX K H x t ∧ PySem.W.kitAny K t us = some b ∧ Q (.bl b) H
theorem call_isiR : CallR X (.builtin "isinstance") (rIsiR X.K) := by
  intro pins s σ H xs us Q I r h
  obtain ⟨x, tp, cs, t, ws, b, rfl, hT, k, ty, e, q⟩ := h
  obtain ⟨u1, u2, rfl, r1, r2⟩ := vals2 r
  cases (show u2 = Value.ref tp from r2)
  obtain ⟨P, Z, p, hx⟩ := kit_of I r1 ty
  obtain ⟨_, its, rv, o, h1, h2, n, h3⟩ := (show ObjOk X.prog X.w H s.heap tp (.tup cs) from hT.ok I.hok)
  have e3 := ClsV.all k rv
  subst e3
  obtain ⟨oc, od, dt, sl⟩ := o
  simp only at h2 h3
  subst h2 h3
  exact PySem.W.kia_tup Z I.kIn p h1 e hx fun tk => ⟨.bl b, H, I.tok tk, rfl, q⟩
def rIsiU (K : PySem.W.Frag) : RCl := fun xs H Q => (rIsi K xs H Q ∨ rIsiR K xs H Q) ∨ rIsiK K xs H Q
def oIsi : DCl := fun ds η Φ => match ds with
  | [x, .ty n] => ∃ a, tyN η x = some a ∧ tyNames.contains n = true ∧ Φ (.bl (isiB a n)) η
  | [x, .tup ts] => ∃ (a : String) (ns : List String), tyN η x = some a ∧ ts = ns.map D.ty ∧ (ns.all fun n => tyNames.contains n) = true ∧ Φ (.bl (ns.any (isiB a))) η
  | _ => False
theorem kitAny_ok {K : PySem.W.Frag} {a : String} (ha : a ∈ "NoneType" :: tyNames) : ∀ {ns : List String}, (ns.all fun n => tyNames.contains n) = true → PySem.W.kitAny K (.type a) (ns.map Value.type) = some (ns.any (isiB a))
  | [], _ => kitAny_nil
  | n :: ns, h => by
    rw [List.all_cons, Bool.and_eq_true] at h
    have h1 := kitB_ok a ha n (List.contains_iff_mem.mp h.1)
    rw [List.map_cons, List.any_cons]
    refine kitAny_cons (kit_ty h1) (fun e => ?_) fun e => ?_
    · rw [e, Bool.false_or]; exact kitAny_ok ha h.2
    · rw [e, Bool.true_or]
theorem tys_reps {K : PySem.W.Frag} {R : Addr → Prop} {η : Eta} {H : Hp} : ∀ {ns : List String} {vs : List V}, Reps K R η H vs (ns.map D.ty) → Paired ClsV vs (ns.map Value.type)
  | [], _, h => by cases h; exact .nil
  | n :: ns, _, h => by
    cases h with
    | cons a b => cases a; exact .cons (.ty n) (tys_reps b)
theorem cl_isi : ClD X (.builtin "isinstance") (rIsiU X.K) oIsi := ⟨(call_isi.or call_isiR).or call_isiK, fun R η H xs ds Φ Q l r h k => by
  unfold oIsi at h
  split at h
  · obtain ⟨a, h1, h2, h⟩ := h
    cases r with
    | cons r1 r2 =>
      cases r2 with
      | cons r2 r3 =>
        cases r3
        cases r2
        obtain ⟨h3, h4⟩ := tyN_ok l r1 h1
        exact .inl (.inl ⟨_, _, _, _, _, rfl, .ty _, h3, kit_ty (kitB_ok a h4 _ (List.contains_iff_mem.mp h2)), k _ _ H η l (Ext.refl _ _) (.bl _) h⟩)
  · obtain ⟨a, ns, h1, rfl, h2, h⟩ := h
    cases r with
    | cons r1 r2 =>
      cases r2 with
      | cons r2 r3 =>
        cases r3
        obtain ⟨h3, h4⟩ := tyN_ok l r1 h1
        cases r2 with
        | tup q _ _ rs => exact .inl (.inr ⟨_, _, _, _, _, _, rfl, q, tys_reps rs, h3, kitAny_ok h4 h2, k _ _ H η l (Ext.refl _ _) (.bl _) h⟩)
        | tupK a1 a2 a3 a4 a5 rs =>
          rename_i a' xs' o its n
          obtain ⟨oc, od, dt, sl⟩ := o
          simp only at a2 a3
          subst a2 a3
          have e3 := ClsV.all (tys_reps rs) a5
          exact .inr ⟨_, a', od, ns.map Value.type, n, sl, _, _, rfl, by rw [a1, ← e3], h3, kitAny_ok h4 h2, k _ _ H η l (Ext.refl _ _) (.bl _) h⟩
  · exact h.elim⟩
def oSet : DSet := fun x y v η Φ => ∃ p i ds j, x = .ref p ∧ y = .int i ∧ η p = some (.lst ds) ∧ ixN ds.length i = some j ∧ Φ (eup η p (.lst (ds.set j v)))
theorem std : StD X rSetL oSet := ⟨set_list, fun R η H x y z dx dy dz Φ Q l rx ry rz h k => by
  obtain ⟨p, i, ds, j, rfl, rfl, hp, hj, h⟩ := h
  cases rx
  cases ry
  obtain ⟨xs, h1, h2⟩ := l.m p _ hp
  have np : η p ≠ none := by rw [hp]; simp
  have e : Ext η H (eup η p (.lst (ds.set j dz))) (upd H p (.lst (xs.set j z))) := Ext.wr np
  exact ⟨p, xs, i, j, rfl, rfl, h1, by rw [h2.length]; exact hj, k _ _ (l.wr (m := .lst (ds.set j dz)) np ⟨_, upd_same, (Reps.set rz j h2).up e⟩) e h⟩⟩
end
end DL
namespace DL
open PySem PySem.Spec PyProof.Rows L2
section
variable {η : Eta} {b : Bool} {i : Int} {x : Str} {xs : List D} {ks : List Key} {p : Addr}
theorem isNonD_non : isNonD .non = true := rfl
theorem isNonD_bl : isNonD (.bl b) = false := rfl
theorem isNonD_int : isNonD (.int i) = false := rfl
theorem isNonD_str : isNonD (.str x) = false := rfl
theorem isNonD_lst : isNonD (.lst xs) = false := rfl
theorem isNonD_tup : isNonD (.tup xs) = false := rfl
/-- == of plain values -/
theorem dEqv_int {j : Int} : dEqv (.int i) (.int j) = decide (i = j) := by simp [dEqv, toPy, PyData.eqv, Bool.beq_eq_decide_eq]
theorem dEqv_str {y : Str} : dEqv (.str x) (.str y) = decide (x = y) := by simp [dEqv, toPy, PyData.eqv, Bool.beq_eq_decide_eq]
theorem dEqv_bl {c : Bool} : dEqv (.bl b) (.bl c) = decide (b = c) := by simp [dEqv, toPy, PyData.eqv, Bool.beq_eq_decide_eq]
theorem dEqv_non : dEqv .non .non = true := by simp [dEqv, toPy, PyData.eqv]
theorem dEqv_non_int : dEqv .non (.int i) = false := by simp [dEqv, toPy, PyData.eqv]
theorem dEqv_int_non : dEqv (.int i) .non = false := by simp [dEqv, toPy, PyData.eqv]
theorem dEqv_non_str : dEqv .non (.str x) = false := by simp [dEqv, toPy, PyData.eqv]
theorem dEqv_str_non : dEqv (.str x) .non = false := by simp [dEqv, toPy, PyData.eqv]
theorem dEqv_int_str : dEqv (.int i) (.str x) = false := by simp [dEqv, toPy, PyData.eqv]
theorem dEqv_str_int : dEqv (.str x) (.int i) = false := by simp [dEqv, toPy, PyData.eqv]
def dEqvs : List D → List D → Bool
  | [], [] => true
  | x :: xs, y :: ys => dEqv x y && dEqvs xs ys
  | _, _ => false
theorem dEqvs_py : ∀ xs ys : List D, PyData.eqvAll (toPys xs) (toPys ys) = dEqvs xs ys
  | [], [] => by simp [toPys, PyData.eqvAll, dEqvs]
  | [], _ :: _ => by simp [toPys, PyData.eqvAll, dEqvs]
  | _ :: _, [] => by simp [toPys, PyData.eqvAll, dEqvs]
  | x :: xs, y :: ys => by simp [toPys, PyData.eqvAll, dEqvs, dEqvs_py xs ys, dEqv]
theorem dEqv_tup {ys : List D} : dEqv (.tup xs) (.tup ys) = dEqvs xs ys := by simp [dEqv, toPy, PyData.eqv, dEqvs_py]
theorem dEqvs_nil : dEqvs [] [] = true := rfl
theorem dEqvs_cons {x y : D} {xs ys : List D} : dEqvs (x :: xs) (y :: ys) = (dEqv x y && dEqvs xs ys) := rfl
theorem dEqvs_nil_cons {y : D} {ys : List D} : dEqvs [] (y :: ys) = false := rfl
theorem atI_cast {α : Type} (ys : List α) (n : Nat) : L2.atI ys (n : Int) = ys[n]? := by
  unfold L2.atI ixN
  rw [if_pos (by omega)]
  by_cases h : (n : Int) < (ys.length : Int)
  · rw [if_pos h]; simp
  · rw [if_neg h]; simp; omega
theorem atI_0 {α : Type} (ys : List α) : L2.atI ys 0 = ys[0]? := atI_cast ys 0
theorem atI_1 {α : Type} (ys : List α) : L2.atI ys 1 = ys[1]? := atI_cast ys 1
theorem atI_2 {α : Type} (ys : List α) : L2.atI ys 2 = ys[2]? := atI_cast ys 2
theorem atI_3 {α : Type} (ys : List α) : L2.atI ys 3 = ys[3]? := atI_cast ys 3
theorem atI_4 {α : Type} (ys : List α) : L2.atI ys 4 = ys[4]? := atI_cast ys 4
theorem atI_5 {α : Type} (ys : List α) : L2.atI ys 5 = ys[5]? := atI_cast ys 5
theorem atI_6 {α : Type} (ys : List α) : L2.atI ys 6 = ys[6]? := atI_cast ys 6
theorem atI_7 {α : Type} (ys : List α) : L2.atI ys 7 = ys[7]? := atI_cast ys 7
theorem atI_8 {α : Type} (ys : List α) : L2.atI ys 8 = ys[8]? := atI_cast ys 8
theorem atI_9 {α : Type} (ys : List α) : L2.atI ys 9 = ys[9]? := atI_cast ys 9
theorem atI_neg1 {α : Type} (ys : List α) : L2.atI ys (-1) = ys[ys.length - 1]? := by
  unfold L2.atI ixN
  rw [if_neg (by omega)]
  by_cases h : -(ys.length : Int) ≤ -1
  · rw [if_pos h]; simp only [Option.bind_some]; congr 1; omega
  · rw [if_neg h]; simp; omega
theorem ixN_0 (m : Nat) : ixN m 0 = if 0 < m then some 0 else none := by unfold ixN; rw [if_pos (by omega)]; by_cases h : 0 < m <;> simp [h] <;> omega
theorem ixN_1 (m : Nat) : ixN m 1 = if 1 < m then some 1 else none := by unfold ixN; rw [if_pos (by omega)]; by_cases h : 1 < m <;> simp [h] <;> omega
theorem ixN_2 (m : Nat) : ixN m 2 = if 2 < m then some 2 else none := by unfold ixN; rw [if_pos (by omega)]; by_cases h : 2 < m <;> simp [h] <;> omega
theorem ixN_3 (m : Nat) : ixN m 3 = if 3 < m then some 3 else none := by unfold ixN; rw [if_pos (by omega)]; by_cases h : 3 < m <;> simp [h] <;> omega
theorem ixN_4 (m : Nat) : ixN m 4 = if 4 < m then some 4 else none := by unfold ixN; rw [if_pos (by omega)]; by_cases h : 4 < m <;> simp [h] <;> omega
theorem ixN_5 (m : Nat) : ixN m 5 = if 5 < m then some 5 else none := by unfold ixN; rw [if_pos (by omega)]; by_cases h : 5 < m <;> simp [h] <;> omega
theorem ixN_6 (m : Nat) : ixN m 6 = if 6 < m then some 6 else none := by unfold ixN; rw [if_pos (by omega)]; by_cases h : 6 < m <;> simp [h] <;> omega
theorem ixN_7 (m : Nat) : ixN m 7 = if 7 < m then some 7 else none := by unfold ixN; rw [if_pos (by omega)]; by_cases h : 7 < m <;> simp [h] <;> omega
end
end DL
end
section
set_option Elab.async false
set_option linter.all false
set_option autoImplicit false
set_option maxRecDepth 100000
set_option maxHeartbeats 4000000
namespace DL
open PySem PySem.Spec PyProof.Rows L2
section
variable {X : Cx} {E : XK} {elt tg iter : Expr} {ifs : List Expr} {scope : Scope} {own : List (Str × Nat)} {pos spos : Pos} {wi : TI} {di : DI} {g : TG} {dg : DG} {tt : TT} {dt : DT} {te : TE} {de : DE}
theorem pds_setLc {i : Nat} {y : Str} {py : Pos} (hc : X.calm = true) (hN : X.N.Nodup) (hy : X.N[i]? = some y) (hyl : X.env.scope.names.lookup y = some .local)
    (hsw : swapsWith (.ListComp elt [⟨tg, iter, ifs, 0⟩] scope pos) (some (.Name y py)) spos.line X.env = pure true) (hi : PDI X E tg iter wi di) (ok : BlkOk X.N X.env.scope scope own)
    (hg : ∀ (s : Shared) (H : Hp) (C : Addr) (cl : List (Str × Addr)) (fp : List Addr), PDG (X.blk s H scope (compEnvC scope cl C X.env) fp) tg g dg) (ho : OwnG g (own.map (·.2)))
    (ht : ∀ (s : Shared) (H : Hp) (C : Addr) (cl : List (Str × Addr)) (fp : List Addr), PDTs (X.blk s H scope (compEnvC scope cl C X.env) fp) E0 ifs tt dt)
    (he : ∀ (s : Shared) (H : Hp) (C : Addr) (cl : List (Str × Addr)) (fp : List Addr), PD (X.blk s H scope (compEnvC scope cl C X.env) fp) E0 elt te de) (hs : ∀ x, foldedSetIterable iter X.env x = pure x := by intro _; rfl) :
    PDS X E (.Assign [.Name y py] (.ListComp elt [⟨tg, iter, ifs, 0⟩] scope pos) spos) (tAsg (tLc wi g tt te (own.map (·.2))) (gName i)) (dAsg (dLc di dg dt de (own.map (·.2))) (dName i)) :=
  ⟨ps_setLc hc hN hy hyl hsw hi.pi ok (fun s H C cl fp => (hg s H C cl fp).pg) (fun s H C cl fp => (ht s H C cl fp).pt) (fun s H C cl fp => (he s H C cl fp).pe) hs,
    so_asg (so_lc hi.so (hg X.s_0 X.H_0 0 [] []).so ho (ht X.s_0 X.H_0 0 [] []).so (he X.s_0 X.H_0 0 [] []).so) so_name⟩
end
section
variable {X : Cx} {E : XK} {tg e e2 : Expr} {te : TE} {de : DE} {ta : TA} {da : DA} {p pos tpos : Pos} {elts : List Expr} {kk : Nat}
def pairs : List D → List D → List D
  | x :: xs, y :: ys => .tup [x, y] :: pairs xs ys
  | _, _ => []
theorem pairs_get : ∀ {xs ys : List D} {i : Nat} {d : D}, (pairs xs ys)[i]? = some d → ∃ x y, xs[i]? = some x ∧ ys[i]? = some y ∧ d = .tup [x, y]
  | [], _, _, _, h => by simp [pairs] at h
  | _ :: _, [], _, _, h => by simp [pairs] at h
  | x :: xs, y :: ys, 0, d, h => by simp [pairs] at h; exact ⟨x, y, rfl, rfl, h.symm⟩
  | x :: xs, y :: ys, i + 1, d, h => by simp only [pairs, List.getElem?_cons_succ] at h ⊢; exact pairs_get h
theorem pairs_len : ∀ xs ys : List D, (pairs xs ys).length = min xs.length ys.length
  | [], _ => by simp [pairs]
  | _ :: _, [] => by simp [pairs]
  | x :: xs, y :: ys => by simp [pairs, pairs_len xs ys]
theorem pair_new {K : PySem.W.Frag} {R : Addr → Prop} {η : Eta} {H : Hp} {T : Addr} {x y : V} {dx dy : D} (l : Lk K R η H) (hT : H T = none) (rx : Rep K R η H x dx) (ry : Rep K R η H y dy) :
    Lk K R η (upd H T (.tup [x, y])) ∧ (∀ a o, H a = some o → upd H T (.tup [x, y]) a = some o) ∧ Rep K R η (upd H T (.tup [x, y])) (.ref T) (.tup [dx, dy]) :=
  ⟨l.new hT, new_ex hT, .tup (.inl upd_same) (l.free hT) (l.nr hT) (.cons (rx.up (Ext.new hT)) (.cons (ry.up (Ext.new hT)) .nil))⟩
def dIZ (da : DA) : DI := fun Z δ η Ψ => da Z δ η fun ds η1 => match ds with
  | [.lst xs, .lst ys] => Ψ (pairs xs ys) (fun _ => True) η1
  | [.tup xs, .tup ys] => Ψ (pairs xs ys) (fun _ => True) η1
  | [.ref p, .lst ys] => ∃ xs, η1 p = some (.lst xs) ∧ Ψ (pairs xs ys) (fun η => η p = some (.lst xs)) η1
  | _ => False
theorem pdi_zip (hg : Gl X "zip") (hm : X.mg "zip" = none) (ha : PDA X E [e, e2] ta da) (hs : starEach [e, e2] X.env = (false, eval e X.env) :: starEach [e2] X.env := by rfl) (hpl : (backTo pos (starEach [e2] X.env)).any (·.1) = false := by rfl) :
    PDI X E (.Tuple elts kk tpos) (.Call (.Name "zip" p) [e, e2] [] pos) (RZ.iZipA X.K ta) (dIZ da) := ⟨RZ.pi_zipA hg hm ha.pa hs hpl, fun R σ H δ η Z Ψ Q l s hw k kx => by
  refine ha.so R σ H δ η Z _ _ l s hw ⟨fun v d H1 η1 l1 x1 r1 h1 => ?_, kx⟩
  split at h1
  · cases r1 with
    | cons r1 r2 =>
      cases r2 with
      | cons r2 r3 =>
        cases r3
        obtain ⟨a, vs, rfl, ha1, ha2⟩ := r1.sqL
        obtain ⟨b, ws, rfl, hb1, hb2⟩ := r2.sqL
        refine ⟨a, b, vs, ws, rfl, .inl ⟨ha1, hb1, k _ _ _ H1 η1 l1 x1 (fun R' m1 m2 η H l' x' _ => ?_) h1⟩⟩
        obtain ⟨a', vs', ea, ha1', ha2'⟩ := ((Rep.more m2 _ _ r1).up x').sqL
        obtain ⟨b', ws', eb, hb1', hb2'⟩ := ((Rep.more m2 _ _ r2).up x').sqL
        cases ea; cases eb
        refine ⟨⟨vs', ws', ha1', hb1', ?_⟩, fun i d hd => ?_⟩
        · rw [pairs_len, ha2'.length, hb2'.length]; omega
        · obtain ⟨dx, dy, h2, h3, rfl⟩ := pairs_get hd
          obtain ⟨x, hx, rx⟩ := ha2'.get h2
          obtain ⟨y, hy, ry⟩ := hb2'.get h3
          refine ⟨⟨vs', ws', x, y, ha1', hb1', hx, hy⟩, fun z H2 yl => ?_⟩
          obtain ⟨T, x', y', rfl, hT, rfl, q1, q2⟩ := yl
          have e1 := q1 _ ha1'
          have e2 := q2 _ hb1'
          rw [hx] at e1; rw [hy] at e2
          cases e1; cases e2
          exact pair_new l' hT rx ry
  · cases r1 with
    | cons r1 r2 =>
      cases r2 with
      | cons r2 r3 =>
        cases r3
        obtain ⟨a, vs, rfl, ha1, ha2⟩ := r1.sqT
        obtain ⟨b, ws, rfl, hb1, hb2⟩ := r2.sqT
        refine ⟨a, b, vs, ws, rfl, .inr ⟨ha1, hb1, k _ _ _ H1 η1 l1 x1 (fun R' m1 m2 η H l' x' _ => ?_) h1⟩⟩
        obtain ⟨a', vs', ea, ha1', ha2'⟩ := ((Rep.more m2 _ _ r1).up x').sqT
        obtain ⟨b', ws', eb, hb1', hb2'⟩ := ((Rep.more m2 _ _ r2).up x').sqT
        cases ea; cases eb
        refine ⟨⟨vs', ws', ha1', hb1', ?_⟩, fun i d hd => ?_⟩
        · rw [pairs_len, ha2'.length, hb2'.length]; omega
        · obtain ⟨dx, dy, h2, h3, rfl⟩ := pairs_get hd
          obtain ⟨x, hx, rx⟩ := ha2'.get h2
          obtain ⟨y, hy, ry⟩ := hb2'.get h3
          refine ⟨⟨vs', ws', x, y, ha1', hb1', hx, hy⟩, fun z H2 yl => ?_⟩
          obtain ⟨T, x', y', rfl, hT, rfl, q1, q2⟩ := yl
          have e1 := q1 _ ha1'
          have e2 := q2 _ hb1'
          rw [hx] at e1; rw [hy] at e2
          cases e1; cases e2
          exact pair_new l' hT rx ry
  · rename_i p ys
    obtain ⟨xs, hp, h1⟩ := h1
    cases r1 with
    | cons r1 r2 =>
      cases r2 with
      | cons r2 r3 =>
        cases r3
        cases r1
        obtain ⟨vs, ha1, ha2⟩ := l1.m p _ hp
        obtain ⟨b, ws, rfl, hb1, hb2⟩ := r2.sqL
        refine ⟨p, b, vs, ws, rfl, .inl ⟨SqL.of ha1, hb1, k _ _ _ H1 η1 l1 x1 (fun R' m1 m2 η H l' x' hg => ?_) h1⟩⟩
        obtain ⟨vs', ha1', ha2'⟩ := l'.m p _ hg
        obtain ⟨b', ws', eb, hb1', hb2'⟩ := ((Rep.more m2 _ _ r2).up x').sqL
        cases eb
        refine ⟨⟨vs', ws', SqL.of ha1', hb1', ?_⟩, fun i d hd => ?_⟩
        · rw [pairs_len, ha2'.length, hb2'.length]; omega
        · obtain ⟨dx, dy, h2, h3, rfl⟩ := pairs_get hd
          obtain ⟨x, hx, rx⟩ := ha2'.get h2
          obtain ⟨y, hy, ry⟩ := hb2'.get h3
          refine ⟨⟨vs', ws', x, y, SqL.of ha1', hb1', hx, hy⟩, fun z H2 yl => ?_⟩
          obtain ⟨T, x', y', rfl, hT, rfl, q1, q2⟩ := yl
          have e1 := q1 _ (SqL.of ha1')
          have e2 := q2 _ hb1'
          rw [hx] at e1; rw [hy] at e2
          cases e1; cases e2
          exact pair_new l' hT rx ry
  · exact h1.elim⟩
def enumD : Int → List D → List D
  | _, [] => []
  | n, x :: xs => .tup [.int n, x] :: enumD (n + 1) xs
end
def pick {α : Type} (idx : List Nat) (l : List α) : List α := idx.filterMap fun i => l[i]?
def KB (K : PySem.W.Frag) (fd : FuncData) (ps : List Str) (n : Nat) (ks : List Str) (idx : List Nat) : Prop :=
  ∀ (s : Shared) (us ws : List Value), us.length = n → ws.length = ks.length → BindsTo s fd ⟨us, ks.zip ws⟩ (ps.zip (pick idx (us ++ ws)))
theorem KB.of {K : PySem.W.Frag} {fd : FuncData} {ps : List Str} {n : Nat} {ks : List Str} {idx : List Nat} (h : ∀ us ws : List Value, us.length = n → ws.length = ks.length → bindArgs fd ⟨us, ks.zip ws⟩ = pure (ps.zip (pick idx (us ++ ws)))) : KB K fd ps n ks idx := fun s us ws h1 h2 => .of_eq (h us ws h1 h2)
theorem vals_pick {vs : List V} {us : List Value} (r : Vals vs us) : ∀ idx : List Nat, Vals (pick idx vs) (pick idx us)
  | [] => .nil
  | i :: idx => by
    have t := vals_pick r idx
    unfold pick at *
    rw [List.filterMap_cons, List.filterMap_cons]
    cases e : vs[i]? with
    | none => rw [Vals.none_of r e]; exact t
    | some v =>
      obtain ⟨u, h1, h2⟩ := r.get e
      rw [h1]
      exact .cons h2 t
theorem reps_pick {K : PySem.W.Frag} {R : Addr → Prop} {η : Eta} {H : Hp} {vs : List V} {ds : List D} (r : Reps K R η H vs ds) : ∀ idx : List Nat, Reps K R η H (pick idx vs) (pick idx ds)
  | [] => .nil
  | i :: idx => by
    have t := reps_pick r idx
    unfold pick at *
    rw [List.filterMap_cons, List.filterMap_cons]
    cases e : ds[i]? with
    | none =>
      have : vs[i]? = none := by rw [List.getElem?_eq_none_iff] at e ⊢; rw [r.length]; exact e
      rw [this]; exact t
    | some d =>
      obtain ⟨u, h1, h2⟩ := r.get e
      rw [h1]
      exact .cons h2 t
theorem Vals.append' {xs ys : List V} {us ws : List Value} (a : Vals xs us) (b : Vals ys ws) : Vals (xs ++ ys) (us ++ ws) := L2.Vals.append a b
def tCallKw (n m : Nat) (sp : Sp) (idx : List Nat) (E : XK) (t tk : TA) : TE := fun σ H Q => t σ H fun vs H1 => tk σ H1 fun zs H2 => vs.length = n ∧ zs.length = m ∧ sp (pick idx (vs ++ zs)) H2 Q E
structure PDK (X : Cx) (E : XK) (kws : List Keyword) (t : TA) (d : DA) : Prop where
  pk : PK X kws t
  so : SoundG X.K E (Reps X.K) t d
def dCallK (c : Ct) (n m : Nat) (idx : List Nat) (da dk : DA) : DE := fun Z δ η Φ => da Z δ η fun us η1 => dk Z δ η1 fun ws η2 => us.length = n ∧ ws.length = m ∧ c (pick idx (us ++ ws)) η2 Z Φ
section
variable {X : Cx} {E : XK} {k n : Nat} {f : Addr} {fd : FuncData} {ps ks : List Str} {idx : List Nat} {c : Ct} {x : Str} {p pos kpos : Pos} {e : Expr} {es : List Expr} {kws : List Keyword} {ta tk : TA} {te : TE} {de : DE} {da dk : DA} {nm : Option Str}
theorem pdk_nil : PDK X E [] tNil dNil := ⟨pk_nil, so_nil⟩
theorem so_cons {K : PySem.W.Frag} (he : SoundG K E (Rep K) te de) (hr : SoundG K E (Reps K) tk dk) : SoundG K E (Reps K) (tCons te tk) (dCons de dk) := fun R σ H δ η Z Φ Q l s h k => by
  refine he R σ H δ η Z _ _ l s h (k.to fun v1 d1 H1 η1 l1 e1 r1 h1 => ?_)
  refine hr R σ H1 δ η1 Z _ _ l1 (s.up e1) h1 ((k.at_ e1).to fun v2 d2 H2 η2 l2 e2 r2 h2 => ?_)
  exact k.ok _ _ H2 η2 l2 (e1.trans e2) (.cons (r1.up e2) r2) h2
theorem pdk_cons (ha : PD X E e te de) (hr : PDK X E kws tk dk) : PDK X E (⟨nm, e, kpos⟩ :: kws) (tCons te tk) (dCons de dk) := ⟨pk_cons ha.pe hr.pk, so_cons ha.so hr.so⟩
theorem run_kw {pins : List (Addr × Obj)} {σ : L2.St} {H : Hp} {s : Shared} {Q : VK} {sp : Sp} {us ws : List Value} {vs zs : List V} (F : FnOk X.prog X.w X.K X.mg X.base (L2.CX X.prog X.w) k f fd ps sp) (hr : Room k X.A) (hb : KB X.K fd ps n ks idx)
    (I : Inv X pins σ H s) (r : Vals vs us) (rz : Vals zs ws) (l1 : vs.length = n) (l2 : zs.length = ks.length) (h : sp (pick idx (vs ++ zs)) H Q E) (tx : TkX X E) : wpAny (model X.prog X.w) X.A (call (.ref f) us (ks.zip ws)) (EP X pins σ Q) X.xe s := by
  refine wpAny_call (codeAny_mono (F.run X.A X.stack s H ⟨us, ks.zip ws⟩ (pick idx (us ++ ws)) (pick idx (vs ++ zs)) Q E hr I.env0 (hb s us ws (r.length.symm.trans l1) (rz.length.symm.trans l2)) (vals_pick (Vals.append' r rz) idx) h) fun r s' hq => ?_)
  cases r with
  | error e => exact tx.pass pins σ H s e s' I hq
  | ok fl =>
    cases fl with
    | ret u => exact I.after hq
    | next => exact False.elim hq
    | brk => exact False.elim hq
    | cont => exact False.elim hq
theorem so_callK {K : PySem.W.Frag} {m : Nat} (ha : SoundG K E (Reps K) ta da) (hk : SoundG K E (Reps K) tk dk) : SoundG K E (Rep K) (tCallKw n m (sp0 K c) idx E ta tk) (dCallK c n m idx da dk) := fun R σ H δ η Z Φ Q l s h k => by
  refine ha R σ H δ η Z _ _ l s h (k.to fun vs ds H1 η1 l1 x1 r1 h1 => ?_)
  refine hk R σ H1 δ η1 Z _ _ l1 (s.up x1) h1 ((k.at_ x1).to fun zs es H2 η2 l2 x2 r2 h2 => ?_)
  obtain ⟨e1, e2, h2⟩ := h2
  refine ⟨by rw [r1.length]; exact e1, by rw [r2.length]; exact e2, R, η2, _, Z, Φ, l2, reps_pick ((r1.up x2).append r2) idx, h2, fun v d H' η' l' x' r' h' => k.ok v d H' η' l' ((x1.trans x2).trans x') r' h', fun C od x H' η' l' x' r' h' => k.ex C od x H' η' l' ((x1.trans x2).trans x') r' h'⟩
theorem pd_callK0 (F : FnOk X.prog X.w X.K X.mg X.base (L2.CX X.prog X.w) k f fd ps (sp0 X.K c)) (hr : Room k X.A) (hg : Gl X x) (hm : X.mg x = some (.ref f)) (hk : PySem.W.keepIn X.K (.ref f) = true) (hb : KB X.K fd ps 0 ks idx) (hkw : PDK X E kws tk dk)
    (hall : (backToKw pos (keywordEach kws X.env)).all (·.1.isSome) = true := by rfl) (hks : (backToKw pos (keywordEach kws X.env)).filterMap (·.1) = ks := by rfl) (hdb : (x == ("__debug__" : Str)) = false := by decide)
    (hpl : ((backTo pos (starEach [] X.env)).any (·.1) || (backToKw pos (keywordEach kws X.env)).any (·.1.isNone)) = false := by rfl) (tx : TkX X E := by first | assumption | exact takes0 | exact takes_of rfl rfl rfl rfl) :
    PD X E (.Call (.Name x p) [] kws pos) (tCallKw 0 ks.length (sp0 X.K c) idx E tNil tk) (dCallK c 0 ks.length idx dNil dk) := ⟨by
  refine ⟨fun pins s σ H Q I h => ?_⟩
  refine wpAny_Call_Name_kw (ld_glob I hg hm ?_ hdb)
  refine PySem.W.callWith_KW0 (h₀ := X.base) I.ok.mod.kin hk hall ?_ hpl
  refine thn (hkw.pk.run pos pins s σ H _ I h) fun ws s2 ⟨zs, H2, I2, rz, l1, l2, q2⟩ => ⟨I2.kIn, ?_⟩
  rw [hks]
  exact run_kw (us := []) (vs := []) F hr hb I2 .nil rz rfl l2 q2 tx, so_callK so_nil hkw.so⟩
end
theorem law_end {l : PySem.W.OpenLaw} {k : Nat} {q : Program} {loose : List Str} {XP : (Str → Option Value) → Heap → Prop} {YP : World → Heap → Prop} {d : DefRec} {K : Params → PySem.W.Frag} {c : Ct} {x : Str}
    (hn : l.most = some 63) (hdf : d.params.defaults = []) (hr : Room k callerA) (hY : ∀ (w : World) (h : Heap), YP w h → (K w.params).In h)
    (F : ∀ (w : World) (mg : Str → Option Value) (fa : Addr) (h : Heap), YP w h → (K w.params).In h → h.Ns mainGlobals mg → mg d.name = some (.ref fa) →
      ∃ (fd : FuncData) (cs : List (Addr × Addr)), (∀ p ∈ cs, h.get? p.2 = some { cls := .none, data := .fields #[] }) ∧ (∀ p ∈ cs, (K w.params).lookup p.2 = none) ∧ (∀ p ∈ cs, PySem.W.CodeHd h p.1 p.2) ∧ (∀ P q, TabK (K w.params) P q → ∃ p ∈ cs, p.2 = P) ∧
        (∀ (s : Shared) (u : Value), BindsTo s fd ⟨[u], []⟩ [(x, u)]) ∧ ∀ base : Heap, (K w.params).In base → base.Ns mainGlobals mg → (∀ p ∈ cs, LamX.TabB base mg p.1 p.2) → FnOk l.prog w (K w.params) mg base (L2.CX l.prog w) k fa fd [x] (sp0 (K w.params) c))
    (hc : ∀ (ns : List Int) (Φ : DK), ns.length ≤ 63 → (∀ η, Φ (.bl true) η) → c [.klst (ns.map D.int)] (fun _ => none) (fun _ _ => False) Φ) :
    PySem.W.WalkO q loose XP YP l.row.toRowW d [] (fun f vs => PySem.call f vs) :=
  LamX.walk_ofTs (n := 63) (k := k) (x := x) (K := K) (CX := fun w => L2.CX l.prog w) hn (by decide) hdf hr hY (fun w mg fa h Y KX G hm => by
    obtain ⟨fd, cs, h1, h2, h3, h4, h5, h6⟩ := F w mg fa h Y KX G hm
    refine ⟨fd, cs, sp0 (K w.params) c, h1, h2, h3, h5, fun H a ns hl _ hT hS => ?_, h6⟩
    have l0 : Lk (K w.params) (fun _ => False) (fun _ => none) H := Lk.mk (fun a m e => nomatch e) (fun a z => False.elim z) (fun P q t => by
      obtain ⟨p, hp, rfl⟩ := h4 P q t
      refine ⟨rfl, fun z => z, #[], hT p hp, True.intro, fun pos cv hcv => ?_⟩
      have z : codeAmong pos [] = some cv := hcv
      simp [codeAmong] at z)
    refine ⟨fun _ => False, fun _ => none, [.klst (ns.map D.int)], fun _ _ => False, fun d _ => d = .bl true, l0, .cons ?_ .nil, hc ns _ hl fun _ => rfl, fun v d H' η' l' x' r' h' => ?_, fun _ _ _ _ _ _ _ _ z => z⟩
    · rcases hS with h | ⟨o, its, n, h1, h2, h3, h4, h5, h6⟩
      · exact .klst h rfl (fun z => z) (Reps.of_ints ns)
      · exact .klstK h1 h2 h3 h4 h5 h6 (Reps.of_ints ns)
    · subst h'; cases r'; rfl) fun _ _ _ _ _ ⟨_, _, _, _, _, _, _, _, _, _, _, _, z⟩ => z
end DL
end
section
set_option Elab.async false
set_option linter.all false
set_option autoImplicit false
set_option maxRecDepth 100000
set_option maxHeartbeats 4000000
namespace DL
open PySem PySem.Spec PyProof.Rows L2
section
variable {X : Cx} {K : PySem.W.Frag} (hK : X.K = K)
include hK
theorem kd_eq (hu : X.A.units + 64 < cLine) : OpD X (compareOp .Eq) (rEqG K) oEq := by subst hK; exact od_eq hu
theorem kd_ne (hu : X.A.units + 64 < cLine) : OpD X (compareOp .NotEq) (rNeG K) oNe := by subst hK; exact od_ne hu
theorem kd_add : OpD X (binaryOp .Add) (rAddU K) oAdd := by subst hK; exact od_add
theorem kd_in (hu : X.A.units + 64 < cLine) : OpD X (compareOp .In) (rInU K) (oInB false) := by subst hK; exact od_in hu
theorem kd_ix : IxD X (rIxU K) oIx := by subst hK; exact ixd
theorem kd_sl : SlD X (rSlU K) oSl := by subst hK; exact sld
theorem kl_len : ClD X (.builtin "len") (rLenU K) oLen := by subst hK; exact cl_len
theorem kl_list : ClD X (.type "list") (rListU K) oList := by subst hK; exact cl_list
theorem kl_tuple : ClD X (.type "tuple") (rTupU K) oTup := by subst hK; exact cl_tuple
theorem kl_all (hc : X.calm = true) : ClD X (.builtin "all") (rAll K) oAll := by subst hK; exact cl_all hc
theorem kl_isi : ClD X (.builtin "isinstance") (rIsiU K) oIsi := by subst hK; exact cl_isi
theorem kdi_zip {E : XK} {e e2 : Expr} {ta : TA} {da : DA} {p pos tpos : Pos} {elts : List Expr} {kk : Nat} (hg : Gl X "zip") (hm : X.mg "zip" = none) (ha : PDA X E [e, e2] ta da) (hs : starEach [e, e2] X.env = (false, eval e X.env) :: starEach [e2] X.env := by rfl) (hpl : (backTo pos (starEach [e2] X.env)).any (·.1) = false := by rfl) :
    PDI X E (.Tuple elts kk tpos) (.Call (.Name "zip" p) [e, e2] [] pos) (RZ.iZipA K ta) (dIZ da) := by subst hK; exact pdi_zip hg hm ha hs hpl
theorem kdg_tup {es : List Expr} {k : Nat} {gs : TGs} {dgs : DGs} {n : Nat} {pos : Pos} (hc : X.calm = true) (h : PDGs X es gs dgs) (hn : (assignEach es X.env).length = n := by rfl) (hst : (assignEach es X.env).findIdx? (·.1) = none := by rfl) : PDG X (.Tuple es k pos) (gTup K n gs) (dTupG n dgs) := by subst hK; exact pdg_tup hc h hn hst
end
/-- where a def's body stands -/
def XIs (X : Cx) (P : Program) (w : World) (K : PySem.W.Frag) (mg : Str → Option Value) (base : Heap) : Prop := X.prog = P ∧ X.w = w ∧ X.K = K ∧ X.mg = mg ∧ X.base = base
section
variable {X : Cx} {P : Program} {w : World} {K : PySem.W.Frag} {mg : Str → Option Value} {base : Heap} {E : XK} {k n : Nat} {f : Addr} {fd : FuncData} {ps ks : List Str} {idx : List Nat} {c : Ct} {dvs : List V} {dds : List D} {dsV : List Value} {x : Str} {p pos : Pos} {e : Expr} {es : List Expr} {kws : List Keyword} {ta tk : TA} {da dk : DA}
theorem kd_call (hX : XIs X P w K mg base) (F : FnOk P w K mg base (L2.CX P w) k f fd ps (sp0 K c)) (hr : Room k X.A) (hg : Gl X x) (hm : mg x = some (.ref f)) (hk : PySem.W.keepIn K (.ref f) = true) (hb : Binds K fd ps dsV) (hv : Vals dvs dsV) (hd : ∀ R η H, Reps K R η H dvs dds)
    (ha : PDA X E (e :: es) ta da) (hdb : (x == ("__debug__" : Str)) = false := by decide) (he : starEach (e :: es) X.env = (false, eval e X.env) :: starEach es X.env := by rfl) (hpl : (backTo pos (starEach es X.env)).any (·.1) = false := by rfl) (tx : TkX X E := by first | assumption | exact takes0 | exact takes_of rfl rfl rfl rfl) :
    PD X E (.Call (.Name x p) (e :: es) [] pos) (tCall (sp0 K c) dvs E ta) (dCall c dds da) := by
  obtain ⟨rfl, rfl, rfl, rfl, rfl⟩ := hX; exact pd_call F hr hg hm hk hb hv hd ha hdb he hpl tx
theorem kd_callK0 (hX : XIs X P w K mg base) (F : FnOk P w K mg base (L2.CX P w) k f fd ps (sp0 K c)) (hr : Room k X.A) (hg : Gl X x) (hm : mg x = some (.ref f)) (hk : PySem.W.keepIn K (.ref f) = true) (hb : KB K fd ps 0 ks idx) (hkw : PDK X E kws tk dk)
    (hall : (backToKw pos (keywordEach kws X.env)).all (·.1.isSome) = true := by rfl) (hks : (backToKw pos (keywordEach kws X.env)).filterMap (·.1) = ks := by rfl) (hdb : (x == ("__debug__" : Str)) = false := by decide)
    (hpl : ((backTo pos (starEach [] X.env)).any (·.1) || (backToKw pos (keywordEach kws X.env)).any (·.1.isNone)) = false := by rfl) (tx : TkX X E := by first | assumption | exact takes0 | exact takes_of rfl rfl rfl rfl) :
    PD X E (.Call (.Name x p) [] kws pos) (tCallKw 0 ks.length (sp0 K c) idx E tNil tk) (dCallK c 0 ks.length idx dNil dk) := by
  obtain ⟨rfl, rfl, rfl, rfl, rfl⟩ := hX; exact pd_callK0 F hr hg hm hk hb hkw hall hks hdb hpl tx
end
/-- a contract that asks for nothing is kept -/
theorem fn_false {P : Program} {w : World} {K : PySem.W.Frag} {mg : Str → Option Value} {base : Heap} {k : Nat} {f : Addr} {fd : FuncData} {ps : List Str} {c : Ct} (h : ∀ ds η Z Φ, ¬ c ds η Z Φ) : FnOk P w K mg base (L2.CX P w) k f fd ps (sp0 K c) :=
  ⟨fun vs H Q E q => by obtain ⟨R, η, ds, Z, Φ, _, _, z, _⟩ := q; exact (h _ _ _ _ z).elim, fun A outer s H args us vs Q E _ _ _ _ q => by obtain ⟨R, η, ds, Z, Φ, _, _, z, _⟩ := q; exact (h _ _ _ _ z).elim⟩
end DL
namespace DL
end DL
end
section
set_option Elab.async false
set_option linter.all false
set_option autoImplicit false
set_option maxRecDepth 100000
set_option maxHeartbeats 4000000
namespace DL
open PySem PySem.Spec PyProof.Rows L2
abbrev DMt := D → List D → Eta → DK → Prop
structure MtD (X : Cx) (id : String) (r : V → List V → Hp → VK → Prop) (o : DMt) : Prop where
  op : MtR X id r
  so : ∀ (R : Addr → Prop) (η : Eta) (H : Hp) (x : V) (xs : List V) (dx : D) (ds : List D) (Φ : DK) (Q : VK), Lk X.K R η H → Rep X.K R η H x dx → Reps X.K R η H xs ds → o dx ds η Φ →
    (∀ v d H' η', Lk X.K R η' H' → Ext η H η' H' → Rep X.K R η' H' v d → Φ d η' → Q v H') → r x xs H Q
section
variable {X : Cx} {E : XK} {a b e : Expr} {ta tb te : TE} {da db de : DE} {pos : Pos}
def dM1 (o : DMt) (da db : DE) : DE := fun Z δ η Φ => da Z δ η fun x η1 => (∃ z, x = .str z) ∧ db Z δ η1 fun y η2 => o x [y] η2 Φ
theorem so_m1 {id : String} {r : V → List V → Hp → VK → Prop} {o : DMt} (ho : MtD X id r o) (ha : SoundG X.K E (Rep X.K) ta da) (hb : SoundG X.K E (Rep X.K) tb db) : SoundG X.K E (Rep X.K) (tM1 r ta tb) (dM1 o da db) := fun R σ H δ η Z Φ Q l s h k => by
  refine ha R σ H δ η Z _ _ l s h (k.to fun v1 d1 H1 η1 l1 e1 r1 h1 => ?_)
  obtain ⟨⟨z, rfl⟩, h1⟩ := h1
  cases r1 with
  | str hz =>
    refine ⟨⟨z, rfl⟩, ?_⟩
    refine hb R σ H1 δ η1 Z _ _ l1 (s.up e1) h1 ((k.at_ e1).to fun v2 d2 H2 η2 l2 e2 r2 h2 => ?_)
    exact ho.so R η2 H2 _ [v2] _ [d2] Φ Q l2 (.str hz) (.cons r2 .nil) h2 fun v d H' η' l' e' r' h' => k.ok v d H' η' l' ((e1.trans e2).trans e') r' h'
theorem pd_m1 {id : String} {name : Str} {apos : Pos} {r : V → List V → Hp → VK → Prop} {o : DMt} (slot : Slot "str" name id) (ty : typeOf (.builtin id) = pure (.type "method_descriptor")) (rule : MtD X id r o) (ho : PD X E a ta da) (he : PD X E b tb db)
    (hs : starEach [b] X.env = [(false, eval b X.env)] := by rfl) (hbase : attributeBase a name X.env (eval a X.env) = eval a X.env := by rfl) (hline : (apos.endLine == pos.line) = true := by rfl) :
    PD X E (.Call (.Attribute a name apos) [b] [] pos) (tM1 r ta tb) (dM1 o da db) := ⟨pe_m1 slot ty rule.op ho.pe he.pe hs hbase hline, so_m1 rule ho.so he.so⟩
end
theorem sok_join {a : Str} : ∀ {ys : List Str}, SOk a → (∀ y ∈ ys, SOk y) → PyData.strOk (Str.join a ys) = true
  | [], _, _ => by show PyData.strOk Str.empty = true; decide +kernel
  | [x], _, h => (h x List.mem_cons_self).cp
  | x :: y :: ys, ha, h => by
    have h1 := (h x List.mem_cons_self).cp
    have h2 := ha.cp
    have h3 := sok_join (ys := y :: ys) ha fun z hz => h z (List.mem_cons_of_mem _ hz)
    rw [PyProof.Rows.join_cons_cons]
    show PyData.strOk ⟨(x.cps ++ a.cps) ++ (Str.join a (y :: ys)).cps⟩ = true
    unfold PyData.strOk at *
    rw [Array.all_append, Array.all_append, h1, h2, h3]; rfl
def oJoin : DMt := fun x ds η Φ => ∃ a y ys, x = .str a ∧ ds = [y] ∧ asS η y = some (ys.map D.str) ∧ (ys.map (·.length)).sum + ys.length * a.length ≤ 16777216 ∧ Φ (.str (Str.join a ys)) η
def rJoin (K : PySem.W.Frag) : V → List V → Hp → VK → Prop := fun x xs H Q => ∃ a p, ∃ ys : List Str, x = .str a ∧ xs = [.ref p] ∧ (SqL K H p (ys.map V.str) ∨ SqT K H p (ys.map V.str)) ∧ (ys.map (·.length)).sum + ys.length * a.length ≤ 16777216 ∧ Q (.str (Txt.join a ys)) H
theorem reps_sok {K : PySem.W.Frag} {R : Addr → Prop} {η : Eta} {H : Hp} : ∀ {ys : List Str} {vs : List V}, Reps K R η H vs (ys.map D.str) → ∀ y ∈ ys, SOk y
  | [], _, _, y, hy => by cases hy
  | x :: xs, _, h, y, hy => by
    cases h with
    | cons a b =>
      cases a with
      | str hz =>
        rcases List.mem_cons.mp hy with rfl | hy
        · exact hz
        · exact reps_sok b y hy
theorem mt_joinD {X : Cx} : MtD X "str.join" (rJoin X.K) oJoin := ⟨mt_join, fun R η H x xs dx ds Φ Q l rx rs h k => by
  obtain ⟨a, y, ys, rfl, rfl, h1, h2, h⟩ := h
  cases rx with
  | str ha =>
    cases rs with
    | cons r1 r2 =>
      cases r2
      obtain ⟨p, vs, rfl, h3, h4⟩ := asS_ok l r1 h1
      have e := h4.strs
      subst e
      have hs := reps_sok h4
      have e2 : Txt.join a ys = Str.join a ys := StrLaws.glued_eq_join a ys
      refine ⟨a, p, ys, rfl, rfl, h3, h2, ?_⟩
      rw [e2]
      exact k _ _ H η l (Ext.refl _ _) (.str ⟨sok_join ha hs, Nat.le_trans (StrLaws.join_length_le a ys) (by rw [sizeLine_eq]; exact h2)⟩) h⟩
section
variable {X : Cx} {K : PySem.W.Frag} (hK : X.K = K)
include hK
theorem kd_join {E : XK} {a b : Expr} {ta tb : TE} {da db : DE} {pos apos : Pos} (ho : PD X E a ta da) (he : PD X E b tb db)
    (hs : starEach [b] X.env = [(false, eval b X.env)] := by rfl) (hbase : attributeBase a "join" X.env (eval a X.env) = eval a X.env := by rfl) (hline : (apos.endLine == pos.line) = true := by rfl) :
    PD X E (.Call (.Attribute a "join" apos) [b] [] pos) (tM1 (rJoin K) ta tb) (dM1 oJoin da db) := by subst hK; exact pd_m1 F.slot_str_join F.type_str_join mt_joinD ho he hs hbase hline
end
end DL
end
section
set_option Elab.async false
set_option linter.all false
set_option autoImplicit false
set_option maxRecDepth 100000
set_option maxHeartbeats 4000000
namespace DL
open PySem PySem.Spec PyProof.Rows L2
def lkp : List Str → List D → Str → Option D
  | n :: ns, d :: ds, f => if f = n then some d else lkp ns ds f
  | _, _, _ => none
def putN : List Str → Str → List Str
  | [], f => [f]
  | n :: ns, f => if n = f then n :: ns else n :: putN ns f
def putD : List Str → List D → Str → D → List D
  | [], _, _, d => [d]
  | n :: ns, x :: ds, f, d => if n = f then d :: ds else x :: putD ns ds f d
  | _ :: _, [], _, d => [d]
section
variable {K : PySem.W.Frag} {R : Addr → Prop} {η : Eta} {H : Hp}
theorem lkp_ok : ∀ {fs : List (Str × V)} {ds : List D} {f : Str} {d : D}, Reps K R η H (fs.map (·.2)) ds → lkp (fs.map (·.1)) ds f = some d → ∃ v, fs.lookup f = some v ∧ Rep K R η H v d
  | [], _, _, _, r, h => by cases r; cases h
  | (n, v) :: fs, ds, f, d, r, h => by
    cases r with
    | @cons _ _ d' ds' r1 r2 =>
      have h : (if f = n then some d' else lkp (fs.map (·.1)) ds' f) = some d := h
      rw [List.lookup_cons]
      by_cases e : f = n
      · subst e
        rw [if_pos rfl] at h; cases h
        exact ⟨v, by simp, r1⟩
      · rw [if_neg e] at h
        obtain ⟨v', h1, h2⟩ := lkp_ok r2 h
        exact ⟨v', by rw [beq_false_of_ne e]; exact h1, h2⟩
end
end DL
end
section
set_option Elab.async false
set_option linter.all false
set_option autoImplicit false
set_option maxRecDepth 100000
set_option maxHeartbeats 4000000
namespace DL
open PySem PySem.Spec PyProof.Rows L2
end DL
namespace DL
open PySem PySem.Spec PyProof.Rows L2
end DL
end
section
set_option Elab.async false
set_option linter.all false
set_option autoImplicit false
set_option maxRecDepth 100000
set_option maxHeartbeats 4000000
namespace DL
open PySem PySem.Spec PyProof.Rows L2
/-- n positional values, the keywords ks, the defaults dvs behind them: which of them each parameter gets -/
def KBD (K : PySem.W.Frag) (fd : FuncData) (ps : List Str) (n : Nat) (ks : List Str) (idx : List Nat) (dvs : List V) : Prop :=
  ∃ dsV, Vals dvs dsV ∧ ∀ (s : Shared) (us ws : List Value), K.In s.heap → us.length = n → ws.length = ks.length → BindsTo s fd ⟨us, ks.zip ws⟩ (ps.zip (pick idx (us ++ (ws ++ dsV))))
theorem KBD.of0 {K : PySem.W.Frag} {fd : FuncData} {ps : List Str} {n : Nat} {ks : List Str} {idx : List Nat} (h : ∀ us ws : List Value, us.length = n → ws.length = ks.length → bindArgs fd ⟨us, ks.zip ws⟩ = pure (ps.zip (pick idx (us ++ (ws ++ []))))) : KBD K fd ps n ks idx [] := ⟨[], .nil, fun s us ws _ h1 h2 => .of_eq (h us ws h1 h2)⟩
end DL
end
section
set_option Elab.async false
set_option linter.all false
set_option autoImplicit false
set_option maxRecDepth 100000
set_option maxHeartbeats 4000000
namespace DL
open PySem PySem.Spec PyProof.Rows L2
end DL
end
section
set_option Elab.async false
set_option linter.all false
set_option autoImplicit false
set_option maxRecDepth 100000
set_option maxHeartbeats 4000000
namespace DL
open PySem PySem.Spec PyProof.Rows L2
end DL
end
section
set_option Elab.async false
set_option linter.all false
set_option autoImplicit false
set_option maxRecDepth 100000
set_option maxHeartbeats 4000000
namespace DL
open PySem PySem.Spec PyProof.Rows L2
inductive Sv where
  | d (x : D)
  | m (pr : Bool) (o : M)
  /-- an object that is walked: it may be read -/
  | l (o : M)
abbrev FS := List (Option Sv)
/-- an expression's value: data, a slot's own object, a new object -/
inductive FV where
  | d (x : D)
  | s (i : Nat)
  | f (o : M)
inductive Rs (α : Type) where
  | ok (a : α) (s : FS)
  | ex (x : D) (s : FS)
  | bad
def Rs.bind {α β : Type} (r : Rs α) (g : α → FS → Rs β) : Rs β := match r with
  | .ok a s => g a s
  | .ex x s => .ex x s
  | .bad => .bad
mutual
/-- nothing in it is an address -/
def nr : D → Bool
  | .ref _ => false
  | .lst xs => nrs xs
  | .tup xs => nrs xs
  | .klst xs => nrs xs
  | .obj _ _ xs => nrs xs
  | .exc _ _ xs => nrs xs
  | .dct _ xs => nrs xs
  | .non => true
  | .bl _ => true
  | .int _ => true
  | .str _ => true
  | .ty _ => true
def nrs : List D → Bool
  | [] => true
  | d :: ds => nr d && nrs ds
end
theorem nrs_eq : ∀ ds : List D, nrs ds = ds.all nr
  | [] => rfl
  | d :: ds => by rw [nrs, List.all_cons, nrs_eq ds]
theorem nrs_mem {ds : List D} (h : nrs ds = true) {d : D} (hd : d ∈ ds) : nr d = true := by
  rw [nrs_eq, List.all_eq_true] at h; exact h d hd
theorem nrs_of {ds : List D} (h : ∀ d ∈ ds, nr d = true) : nrs ds = true := by
  rw [nrs_eq, List.all_eq_true]; exact h
theorem nrs_app {a b : List D} (ha : nrs a = true) (hb : nrs b = true) : nrs (a ++ b) = true := nrs_of fun d hd => by
  rcases List.mem_append.mp hd with h | h
  · exact nrs_mem ha h
  · exact nrs_mem hb h
theorem nrs_cons {a : D} {b : List D} (ha : nr a = true) (hb : nrs b = true) : nrs (a :: b) = true := by rw [nrs, ha, hb]; rfl
def mD : M → D
  | .lst ds => .lst ds
  | .ins C ns ds => .obj C ns ds
  | .dct ks ds => .dct ks ds
def nrM (o : M) : Prop := nr (mD o) = true
def rd (η : Eta) : D → D
  | .ref p => match η p with
    | some o => mD o
    | none => .ref p
  | d => d
theorem rd_nr {η : Eta} : ∀ {x : D}, nr x = true → rd η x = x
  | .ref _, h => by simp [nr] at h
  | .lst _, _ | .tup _, _ | .klst _, _ | .obj _ _ _, _ | .exc _ _ _, _ | .dct _ _, _ | .non, _ | .bl _, _ | .int _, _ | .str _, _ | .ty _, _ => rfl
theorem rd_ref {η : Eta} {p : Addr} {o : M} (h : η p = some o) : rd η (.ref p) = mD o := by simp [rd, h]
def slotM (fs : FS) (i : Nat) : Option M := match fs[i]? with
  | some (some (.m _ o)) => some o
  | some (some (.l o)) => some o
  | _ => none
theorem slotM_some {fs : FS} {i : Nat} {o : M} (h : slotM fs i = some o) : (∃ pr, fs[i]? = some (some (.m pr o))) ∨ fs[i]? = some (some (.l o)) := by
  unfold slotM at h
  split at h
  · rename_i pr o' e; cases h; exact .inl ⟨pr, e⟩
  · rename_i o' e; cases h; exact .inr e
  · cases h
def rsv (fs : FS) : FV → Option D
  | .d x => some x
  | .f o => some (mD o)
  | .s i => (slotM fs i).map mD
/-- what the frame does not own, and where its pinned objects stand -/
structure Om where
  b : Eta
  ps : Nat → Option Addr
  lk : Nat → Option Addr
/-- the frame's state by functions and over data -/
structure St (B : Om) (fs : FS) (δ : DSt) (η : Eta) : Prop where
  len : fs.length = δ.length
  d : ∀ (i : Nat) (x : D), fs[i]? = some (some (.d x)) → δ[i]? = some (some x) ∧ nr x = true
  m : ∀ (i : Nat) (pr : Bool) (o : M), fs[i]? = some (some (.m pr o)) → ∃ p, δ[i]? = some (some (.ref p)) ∧ η p = some o ∧ B.b p = none ∧ nrM o ∧ (pr = true → B.ps i = some p) ∧ (pr = false → ∀ j, B.ps j ≠ some p)
  l : ∀ (i : Nat) (o : M), fs[i]? = some (some (.l o)) → ∃ p, δ[i]? = some (some (.ref p)) ∧ B.b p = some o ∧ nrM o ∧ B.lk i = some p
  lk : ∀ (i : Nat) (p : Addr), B.lk i = some p → (∃ o, fs[i]? = some (some (.l o))) ∧ B.b p ≠ none
  inj : ∀ (i j : Nat) (pr pr' : Bool) (o o' : M) (p : Addr), fs[i]? = some (some (.m pr o)) → fs[j]? = some (some (.m pr' o')) → δ[i]? = some (some (.ref p)) → δ[j]? = some (some (.ref p)) → i = j
  fr : ∀ (a : Addr) (o : M), B.b a = some o → η a = some o
  pn : ∀ (i : Nat) (p : Addr), B.ps i = some p → η p ≠ none
/-- a new object's address -/
structure Frs (B : Om) (fs : FS) (δ : DSt) (p : Addr) : Prop where
  b : B.b p = none
  sl : ∀ (i : Nat) (pr : Bool) (o : M), fs[i]? = some (some (.m pr o)) → δ[i]? ≠ some (some (.ref p))
  ps : ∀ j, B.ps j ≠ some p
  lk : ∀ j, B.lk j ≠ some p
def VR (B : Om) (fs : FS) (δ : DSt) (η : Eta) : FV → D → Prop
  | .d x, d => d = x ∧ nr x = true
  | .s i, d => δ[i]? = some (some d)
  | .f o, d => ∃ p, d = .ref p ∧ η p = some o ∧ nrM o ∧ Frs B fs δ p
def ext (B : Om) : FV → D → Om
  | .f o, .ref p => ⟨eup B.b p o, B.ps, B.lk⟩
  | _, _ => B
section
variable {B : Om} {fs fs' : FS} {δ δ' : DSt} {η η' : Eta} {v w : FV} {x d : D} {i : Nat} {p : Addr} {o : M}
theorem St.frs (s : St B fs δ η) (h : η p = none) : Frs B fs δ p where
  b := by
    cases e : B.b p with
    | none => rfl
    | some o => rw [s.fr p o e] at h; cases h
  sl := fun i pr o e q => by
    obtain ⟨q', q1, q2, _⟩ := s.m i pr o e
    rw [q] at q1; cases q1; rw [h] at q2; cases q2
  ps := fun j e => s.pn j p e h
  lk := fun j e => by
    cases q : B.b p with
    | none => exact (s.lk j p e).2 q
    | some o => rw [s.fr p o q] at h; cases h
theorem VR.rd (s : St B fs δ η) (r : VR B fs δ η v d) (h : rsv fs v = some x) : rd η d = x ∧ nr x = true := by
  cases v with
  | d y => cases h; obtain ⟨rfl, n⟩ := r; exact ⟨rd_nr n, n⟩
  | f o => cases h; obtain ⟨p, rfl, h1, n, _⟩ := r; exact ⟨rd_ref h1, n⟩
  | s i =>
    cases e : slotM fs i with
    | none => simp [rsv, e] at h
    | some o =>
      simp [rsv, e] at h
      have r : δ[i]? = some (some d) := r
      rcases slotM_some e with ⟨pr, e2⟩ | e2
      · obtain ⟨p, h1, h2, _, n, _⟩ := s.m i pr o e2
        rw [h1] at r
        cases r
        rw [← h]
        exact ⟨rd_ref h2, n⟩
      · obtain ⟨p, h1, h2, n, _⟩ := s.l i o e2
        rw [h1] at r
        cases r
        rw [← h]
        exact ⟨rd_ref (s.fr p o h2), n⟩
theorem St.ext_ (s : St B fs δ η) (r : VR B fs δ η v d) : St (ext B v d) fs δ η := by
  cases v with
  | d y => exact s
  | s i => exact s
  | f o =>
    obtain ⟨p, rfl, h1, n, h2⟩ := r
    refine ⟨s.len, s.d, fun i pr o' e => ?_, fun i o' e => ?_, fun i q e => ?_, s.inj, fun a o' h => ?_, s.pn⟩
    · obtain ⟨q, q1, q2, q3, q4⟩ := s.m i pr o' e
      refine ⟨q, q1, q2, ?_, q4⟩
      have ne : q ≠ p := by rintro rfl; exact h2.sl i pr o' e q1
      show eup B.b p o q = none
      rw [eup_ne ne]; exact q3
    · obtain ⟨q, q1, q2, q3⟩ := s.l i o' e
      refine ⟨q, q1, ?_, q3⟩
      have ne : q ≠ p := by rintro rfl; rw [h2.b] at q2; cases q2
      show eup B.b p o q = some o'
      rw [eup_ne ne]; exact q2
    · obtain ⟨q1, q2⟩ := s.lk i q e
      refine ⟨q1, ?_⟩
      have ne : q ≠ p := by rintro rfl; exact h2.lk i e
      show eup B.b p o q ≠ none
      rw [eup_ne ne]; exact q2
    · have h : eup B.b p o a = some o' := h
      by_cases e : a = p
      · subst e; rw [eup_same] at h; cases h; exact h1
      · rw [eup_ne e] at h; exact s.fr a o' h
/-- what holds beside a new object holds without it -/
theorem St.unext {fs1 : FS} {η1 : Eta} (r : VR B fs1 δ' η1 v d) (s : St (ext B v d) fs δ η) : St B fs δ η := by
  cases v with
  | d y => exact s
  | s i => exact s
  | f o =>
    obtain ⟨p, rfl, h1, n, h2⟩ := r
    refine ⟨s.len, s.d, fun i pr o' e => ?_, fun i o' e => ?_, fun i q e => ?_, s.inj, fun a o' h => ?_, s.pn⟩
    · obtain ⟨q, q1, q2, q3, q4⟩ := s.m i pr o' e
      have q3 : eup B.b p o q = none := q3
      by_cases e : q = p
      · subst e; rw [eup_same] at q3; cases q3
      · rw [eup_ne e] at q3; exact ⟨q, q1, q2, q3, q4⟩
    · obtain ⟨q, q1, q2, q3, q4⟩ := s.l i o' e
      have q2 : eup B.b p o q = some o' := q2
      by_cases e : q = p
      · subst e; exact absurd q4 (h2.lk i)
      · rw [eup_ne e] at q2; exact ⟨q, q1, q2, q3, q4⟩
    · obtain ⟨q1, q2⟩ := s.lk i q e
      have q2 : eup B.b p o q ≠ none := q2
      have ne : q ≠ p := by rintro rfl; exact h2.lk i e
      rw [eup_ne ne] at q2; exact ⟨q1, q2⟩
    · have ne : a ≠ p := by rintro rfl; rw [h2.b] at h; cases h
      exact s.fr a o' (show eup B.b p o a = some o' by rw [eup_ne ne]; exact h)
/-- a value stays what it is while the next one is reckoned -/
theorem VR.step {fs1 : FS} {η1 : Eta} (r : VR B fs1 δ η1 v d) (s : St (ext B v d) fs δ η) : VR B fs δ η v d := by
  cases v with
  | d y => exact r
  | s i => exact r
  | f o =>
    obtain ⟨p, rfl, h1, n, h2⟩ := r
    refine ⟨p, rfl, s.fr p o (show eup B.b p o p = some o from eup_same), n, h2.b, fun i pr o' e q => ?_, h2.ps, h2.lk⟩
    obtain ⟨q', q1, q2, q3, q4⟩ := s.m i pr o' e
    rw [q] at q1
    cases q1
    have q3 : eup B.b p o p = none := q3
    rw [eup_same] at q3; cases q3
theorem VR.unext {fs1 : FS} {η1 : Eta} (r : VR B fs1 δ η1 v d) (q : VR (ext B v d) fs δ η w x) : VR B fs δ η w x := by
  cases w with
  | d y => exact q
  | s i => exact q
  | f o' =>
    obtain ⟨p', rfl, h1, n, h2⟩ := q
    refine ⟨p', rfl, h1, n, ?_, h2.sl, ?_, ?_⟩
    · cases v with
      | d y => exact h2.b
      | s i => exact h2.b
      | f o =>
        obtain ⟨p, rfl, _⟩ := r
        have h2 : eup B.b p o p' = none := h2.b
        by_cases e : p' = p
        · subst e; rw [eup_same] at h2; cases h2
        · rw [eup_ne e] at h2; exact h2
    · cases v with
      | d y => exact h2.ps
      | s i => exact h2.ps
      | f o =>
        obtain ⟨p, rfl, _⟩ := r
        exact h2.ps
    · cases v with
      | d y => exact h2.lk
      | s i => exact h2.lk
      | f o =>
        obtain ⟨p, rfl, _⟩ := r
        exact h2.lk
end
/-- values one beside the other: new objects are different ones -/
def VRs : Om → FS → DSt → Eta → List FV → List D → Prop
  | _, _, _, _, [], [] => True
  | B, fs, δ, η, v :: vs, d :: ds => VR B fs δ η v d ∧ VRs (ext B v d) fs δ η vs ds
  | _, _, _, _, _, _ => False
def VEq {α : Type} : Om → FS → DSt → Eta → α → α → Prop := fun _ _ _ _ a b => a = b
/-- what follows holds of the result -/
def Post {α β : Type} (B : Om) (δ : DSt) (Rl : Om → FS → DSt → Eta → α → β → Prop) (r : Rs α) (Z : Xk) (Φ : β → Eta → Prop) : Prop := match r with
  | .ok v fs' => ∀ d η', St B fs' δ η' → Rl B fs' δ η' v d → Φ d η'
  | .ex x fs' => ∀ η', St B fs' δ η' → nr x = true → Z x η'
  | .bad => False
def ImpG {α β : Type} (Rl : Om → FS → DSt → Eta → α → β → Prop) (t : Xk → DSt → Eta → (β → Eta → Prop) → Prop) (f : FS → Rs α) : Prop :=
  ∀ (B : Om) (fs : FS) (δ : DSt) (η : Eta) (Z : Xk) (Φ : β → Eta → Prop), St B fs δ η → Post B δ Rl (f fs) Z Φ → t Z δ η Φ
abbrev FE := FS → Rs FV
abbrev FT := FS → Rs Bool
abbrev FA := FS → Rs (List FV)
abbrev FO := FS → Rs (Option Int)
section
variable {α β γ ε : Type} {B : Om} {fs fs1 : FS} {δ : DSt} {η η1 : Eta} {Z : Xk} {Φ : β → Eta → Prop} {Ψ : ε → Eta → Prop} {Rl : Om → FS → DSt → Eta → γ → ε → Prop} {Rl' : Om → FS → DSt → Eta → α → β → Prop} {r : Rs γ} {g : γ → FS → Rs α}
theorem Post.bind (h : Post B δ Rl' (r.bind g) Z Φ) (k : ∀ v fs1 d η1, St B fs1 δ η1 → Rl B fs1 δ η1 v d → Post B δ Rl' (g v fs1) Z Φ → Ψ d η1) : Post B δ Rl r Z Ψ := by
  cases r with
  | ok v fs1 => exact fun d η1 s rl => k v fs1 d η1 s rl h
  | ex x fs1 => exact h
  | bad => exact h
theorem Post.bind2 {x : FV} {d1 : D} (hx : VR B fs1 δ η1 x d1) (h : Post B δ Rl' (r.bind g) Z Φ) (k : ∀ v fs2 d η2, St B fs2 δ η2 → VR B fs2 δ η2 x d1 → St (ext B x d1) fs2 δ η2 → Rl (ext B x d1) fs2 δ η2 v d → Post B δ Rl' (g v fs2) Z Φ → Ψ d η2) : Post (ext B x d1) δ Rl r Z Ψ := by
  cases r with
  | ok v fs2 => exact fun d η2 s rl => k v fs2 d η2 (s.unext hx) (hx.step s) s rl h
  | ex x fs1 => exact fun η2 s => h η2 (s.unext hx)
  | bad => exact h
end
end DL
end
section
set_option Elab.async false
set_option linter.all false
set_option autoImplicit false
set_option maxRecDepth 100000
set_option maxHeartbeats 4000000
namespace DL
open PySem PySem.Spec PyProof.Rows L2
section
variable {B : Om} {fs fs' : FS} {δ δ' : DSt} {η η' : Eta} {v w : FV} {x d : D} {i : Nat} {p : Addr} {o : M} {vs : List FV} {ds : List D}
/-- a new object is laid -/
theorem St.new (s : St B fs δ η) (h : η p = none) : St B fs δ (eup η p o) := by
  refine ⟨s.len, s.d, fun i pr o' e => ?_, s.l, s.lk, s.inj, fun a o' q => ?_, fun i q e => ?_⟩
  · obtain ⟨q, q1, q2, q3⟩ := s.m i pr o' e
    have ne : q ≠ p := by rintro rfl; rw [h] at q2; cases q2
    exact ⟨q, q1, by rw [eup_ne ne]; exact q2, q3⟩
  · have ne : a ≠ p := by rintro rfl; rw [s.fr _ _ q] at h; cases h
    rw [eup_ne ne]; exact s.fr a o' q
  · by_cases ne : q = p
    · subst ne; rw [eup_same]; simp
    · rw [eup_ne ne]; exact s.pn i q e
theorem VR.new (s : St B fs δ η) (h : η p = none) (n : nrM o) : VR B fs δ (eup η p o) (.f o) (.ref p) := ⟨p, rfl, eup_same, n, s.frs h⟩
/-- several values -/
def rsvs (fs : FS) : List FV → Option (List D)
  | [] => some []
  | v :: vs => match rsv fs v, rsvs fs vs with
    | some x, some xs => some (x :: xs)
    | _, _ => none
theorem VRs.rds {as : List D} (s : St B fs δ η) (r : VRs B fs δ η vs ds) (h : rsvs fs vs = some as) : ds.map (rd η) = as ∧ nrs as = true := by
  induction vs generalizing ds as B with
  | nil =>
    cases ds with
    | nil => cases h; exact ⟨rfl, rfl⟩
    | cons _ _ => exact r.elim
  | cons v vs ih =>
    cases ds with
    | nil => exact r.elim
    | cons d ds =>
      obtain ⟨r1, r2⟩ := r
      cases e1 : rsv fs v with
      | none => simp [rsvs, e1] at h
      | some x =>
        cases e2 : rsvs fs vs with
        | none => simp [rsvs, e1, e2] at h
        | some xs =>
          simp [rsvs, e1, e2] at h
          obtain ⟨h1, h2⟩ := r1.rd s e1
          obtain ⟨h3, h4⟩ := ih (s.ext_ r1) r2 e2
          subst h
          exact ⟨by rw [List.map_cons, h1, h3], nrs_cons h2 h4⟩
def allD : List FV → Option (List D)
  | [] => some []
  | .d x :: vs => match allD vs with
    | some xs => some (x :: xs)
    | none => none
  | _ => none
theorem VRs.allD {as : List D} (r : VRs B fs δ η vs ds) (h : DL.allD vs = some as) : ds = as ∧ nrs as = true := by
  induction vs generalizing ds as B with
  | nil =>
    cases ds with
    | nil => cases h; exact ⟨rfl, rfl⟩
    | cons _ _ => exact r.elim
  | cons v vs ih =>
    cases ds with
    | nil => exact r.elim
    | cons d ds =>
      obtain ⟨r1, r2⟩ := r
      cases v with
      | d x =>
        obtain ⟨rfl, n⟩ := r1
        cases e2 : DL.allD vs with
        | none => simp [DL.allD, e2] at h
        | some xs =>
          simp [DL.allD, e2] at h
          obtain ⟨h3, h4⟩ := ih r2 e2
          subst h
          exact ⟨by rw [h3], nrs_cons n h4⟩
      | s i => simp [DL.allD] at h
      | f o => simp [DL.allD] at h
end
def fVar (i : Nat) : FE := fun fs => match fs[i]? with
  | some (some (.d x)) => .ok (.d x) fs
  | some (some (.m _ _)) => .ok (.s i) fs
  | some (some (.l _)) => .ok (.s i) fs
  | _ => .bad
theorem imp_var {i : Nat} : ImpG VR (dVar i) (fVar i) := fun B fs δ η Z Φ s h => by
  unfold fVar at h
  split at h
  · rename_i x e
    obtain ⟨e1, n⟩ := s.d i x e
    exact ⟨x, e1, h x η s ⟨rfl, n⟩⟩
  · rename_i pr o e
    obtain ⟨p, e1, _⟩ := s.m i pr o e
    exact ⟨.ref p, e1, h (.ref p) η s e1⟩
  · rename_i o e
    obtain ⟨p, e1, _⟩ := s.l i o e
    exact ⟨.ref p, e1, h (.ref p) η s e1⟩
  · exact h.elim
def fC (d : D) : FE := fun fs => .ok (.d d) fs
theorem imp_c {d : D} (n : nr d = true := by rfl) : ImpG VR (dC d) (fC d) := fun B fs δ η Z Φ s h => h d η s ⟨rfl, n⟩
abbrev FO2 := FS → FV → FV → Rs FV
def ImpO2 (do_ : DR2) (o : FO2) : Prop := ∀ (B : Om) (fs : FS) (δ : DSt) (η : Eta) (x y : FV) (dx dy : D) (Z : Xk) (Φ : DK), St B fs δ η → VR B fs δ η x dx → VR B fs δ η y dy → Post B δ VR (o fs x y) Z Φ → do_ dx dy η Φ
def fOp (o : FO2) (fa fb : FE) : FE := fun fs => (fa fs).bind fun x fs1 => (fb fs1).bind fun y fs2 => o fs2 x y
def op2 (g : D → D → Option D) : FO2 := fun fs x y => match rsv fs x, rsv fs y with
  | some a, some b => match g a b with
    | some z => .ok (.d z) fs
    | none => .bad
  | _, _ => .bad
theorem imp_o2 {do_ : DR2} {g : D → D → Option D} (h : ∀ η dx dy Φ z, nr (rd η dx) = true → nr (rd η dy) = true → g (rd η dx) (rd η dy) = some z → nr z = true ∧ (Φ z η → do_ dx dy η Φ)) : ImpO2 do_ (op2 g) := fun B fs δ η x y dx dy Z Φ s rx ry q => by
  unfold op2 at q
  split at q
  · rename_i a b ea eb
    obtain ⟨h1, n1⟩ := rx.rd s ea
    obtain ⟨h2, n2⟩ := ry.rd s eb
    split at q
    · rename_i z ez
      subst h1 h2
      obtain ⟨n, k⟩ := h η dx dy Φ z n1 n2 ez
      exact k (q z η s ⟨rfl, n⟩)
    · exact q.elim
  · exact q.elim
section
variable {da db dc : DE} {fa fb fc : FE} {do_ do' : DR2} {o o' : FO2}
theorem imp_op (ho : ImpO2 do_ o) (ha : ImpG VR da fa) (hb : ImpG VR db fb) : ImpG VR (dOp do_ da db) (fOp o fa fb) := fun B fs δ η Z Φ s h =>
  ha B fs δ η Z _ s (Post.bind h fun x fs1 d1 η1 s1 r1 h1 => hb (ext B x d1) fs1 δ η1 Z _ (s1.ext_ r1) (Post.bind2 r1 h1 fun y fs2 d2 η2 s2 rx s2' ry h2 => ho B fs2 δ η2 x y d1 d2 Z Φ s2 rx (r1.unext ry) h2))
def fTest (fe : FE) : FT := fun fs => (fe fs).bind fun v fs1 => match v with
  | .d (.bl b) => .ok b fs1
  | _ => .bad
theorem imp_test (ha : ImpG VR da fa) : ImpG VEq (dTest da) (fTest fa) := fun B fs δ η Z Φ s h => ha B fs δ η Z _ s (Post.bind h fun v fs1 d1 η1 s1 r1 h1 => by
  split at h1
  · rename_i b
    obtain ⟨rfl, -⟩ := r1
    exact ⟨b, rfl, h1 b η1 s1 rfl⟩
  · exact h1.elim)
variable {dt du : DT} {ft fu : FT}
def fAnd (ft fu : FT) : FT := fun fs => (ft fs).bind fun c fs1 => if c = true then fu fs1 else .ok false fs1
def fOr (ft fu : FT) : FT := fun fs => (ft fs).bind fun c fs1 => if c = true then .ok true fs1 else fu fs1
def fNot (ft : FT) : FT := fun fs => (ft fs).bind fun c fs1 => .ok (!c) fs1
theorem imp_and (ht : ImpG VEq dt ft) (hu : ImpG VEq du fu) : ImpG VEq (dAnd dt du) (fAnd ft fu) := fun B fs δ η Z Φ s h => ht B fs δ η Z _ s (Post.bind h fun c fs1 d1 η1 s1 r1 h1 => by
  obtain rfl : c = d1 := r1
  cases c with
  | true => exact hu B fs1 δ η1 Z Φ s1 h1
  | false => exact h1 false η1 s1 rfl)
theorem imp_or (ht : ImpG VEq dt ft) (hu : ImpG VEq du fu) : ImpG VEq (dOr dt du) (fOr ft fu) := fun B fs δ η Z Φ s h => ht B fs δ η Z _ s (Post.bind h fun c fs1 d1 η1 s1 r1 h1 => by
  obtain rfl : c = d1 := r1
  cases c with
  | false => exact hu B fs1 δ η1 Z Φ s1 h1
  | true => exact h1 true η1 s1 rfl)
theorem imp_not (ht : ImpG VEq dt ft) : ImpG VEq (dNot dt) (fNot ft) := fun B fs δ η Z Φ s h => ht B fs δ η Z _ s (Post.bind h fun c fs1 d1 η1 s1 r1 h1 => by
  obtain rfl : c = d1 := r1
  exact h1 (!c) η1 s1 rfl)
def fYes : FT := fun fs => .ok true fs
theorem imp_yes : ImpG VEq dYes fYes := fun B fs δ η Z Φ s h => h true η s rfl
/-- and, or, not as values -/
def blOf (v : FV) : Option Bool := match v with
  | .d (.bl b) => some b
  | _ => none
theorem blOf_some {v : FV} {b : Bool} (h : blOf v = some b) : v = .d (.bl b) := by
  unfold blOf at h
  split at h
  · cases h; rfl
  · cases h
def fAndV (fa fb : FE) : FE := fun fs => (fa fs).bind fun v fs1 => match blOf v with
  | some true => fb fs1
  | some false => .ok (.d (.bl false)) fs1
  | none => .bad
def fOrV (fa fb : FE) : FE := fun fs => (fa fs).bind fun v fs1 => match blOf v with
  | some false => fb fs1
  | some true => .ok (.d (.bl true)) fs1
  | none => .bad
def fNotV (fa : FE) : FE := fun fs => (fa fs).bind fun v fs1 => match blOf v with
  | some b => .ok (.d (.bl (!b))) fs1
  | none => .bad
theorem imp_andV (ha : ImpG VR da fa) (hb : ImpG VR db fb) : ImpG VR (dAndV da db) (fAndV fa fb) := fun B fs δ η Z Φ s h => ha B fs δ η Z _ s (Post.bind h fun v fs1 d1 η1 s1 r1 h1 => by
  split at h1
  · rename_i e; cases blOf_some e; obtain ⟨rfl, -⟩ := r1; exact ⟨true, rfl, hb B fs1 δ η1 Z Φ s1 h1⟩
  · rename_i e; cases blOf_some e; obtain ⟨rfl, -⟩ := r1; exact ⟨false, rfl, h1 _ η1 s1 ⟨rfl, rfl⟩⟩
  · exact h1.elim)
theorem imp_orV (ha : ImpG VR da fa) (hb : ImpG VR db fb) : ImpG VR (dOrV da db) (fOrV fa fb) := fun B fs δ η Z Φ s h => ha B fs δ η Z _ s (Post.bind h fun v fs1 d1 η1 s1 r1 h1 => by
  split at h1
  · rename_i e; cases blOf_some e; obtain ⟨rfl, -⟩ := r1; exact ⟨false, rfl, hb B fs1 δ η1 Z Φ s1 h1⟩
  · rename_i e; cases blOf_some e; obtain ⟨rfl, -⟩ := r1; exact ⟨true, rfl, h1 _ η1 s1 ⟨rfl, rfl⟩⟩
  · exact h1.elim)
theorem imp_notV (ha : ImpG VR da fa) : ImpG VR (dNotV da) (fNotV fa) := fun B fs δ η Z Φ s h => ha B fs δ η Z _ s (Post.bind h fun v fs1 d1 η1 s1 r1 h1 => by
  split at h1
  · rename_i b e; cases blOf_some e; obtain ⟨rfl, -⟩ := r1; exact ⟨b, rfl, h1 _ η1 s1 ⟨rfl, rfl⟩⟩
  · exact h1.elim)
def fIf (ft : FT) (fa fb : FE) : FE := fun fs => (ft fs).bind fun c fs1 => if c = true then fa fs1 else fb fs1
theorem imp_if (ht : ImpG VEq dt ft) (ha : ImpG VR da fa) (hb : ImpG VR db fb) : ImpG VR (dIf dt da db) (fIf ft fa fb) := fun B fs δ η Z Φ s h => ht B fs δ η Z _ s (Post.bind h fun c fs1 d1 η1 s1 r1 h1 => by
  obtain rfl : c = d1 := r1
  cases c with
  | true => exact ha B fs1 δ η1 Z Φ s1 h1
  | false => exact hb B fs1 δ η1 Z Φ s1 h1)
def fChain (o o' : FO2) (fa fb fc : FE) : FE := fun fs => (fa fs).bind fun x fs1 => (fb fs1).bind fun y fs2 => match y with
  | .d yy => (o fs2 x (.d yy)).bind fun z fs3 => match blOf z with
    | some true => (fc fs3).bind fun w fs4 => o' fs4 (.d yy) w
    | some false => .ok (.d (.bl false)) fs3
    | none => .bad
  | _ => .bad
theorem imp_chain (ho : ImpO2 do_ o) (ho' : ImpO2 do' o') (ha : ImpG VR da fa) (hb : ImpG VR db fb) (hc : ImpG VR dc fc) : ImpG VR (dChain do_ do' da db dc) (fChain o o' fa fb fc) := fun B fs δ η Z Φ s h =>
  ha B fs δ η Z _ s (Post.bind h fun x fs1 d1 η1 s1 r1 h1 => hb (ext B x d1) fs1 δ η1 Z _ (s1.ext_ r1) (Post.bind2 r1 h1 fun y fs2 d2 η2 s2 rx s2' ry h2 => by
    split at h2
    · rename_i yy
      obtain ⟨rfl, ny⟩ := ry
      refine ho B fs2 δ η2 x (.d d2) d1 d2 Z _ s2 rx ⟨rfl, ny⟩ (Post.bind h2 fun z fs3 d3 η3 s3 r3 h3 => ?_)
      split at h3
      · rename_i e3; cases blOf_some e3; obtain ⟨rfl, -⟩ := r3
        exact ⟨true, rfl, hc B fs3 δ η3 Z _ s3 (Post.bind h3 fun w fs4 d4 η4 s4 r4 h4 => ho' B fs4 δ η4 (.d d2) w d2 d4 Z Φ s4 ⟨rfl, ny⟩ r4 h4)⟩
      · rename_i e3; cases blOf_some e3; obtain ⟨rfl, -⟩ := r3
        exact ⟨false, rfl, h3 _ η3 s3 ⟨rfl, rfl⟩⟩
      · exact h3.elim
    · exact h2.elim))
variable {dr ds' : DA} {fr : FA}
def fNil : FA := fun fs => .ok [] fs
def fCons (fe : FE) (fr : FA) : FA := fun fs => (fe fs).bind fun v fs1 => (fr fs1).bind fun vs fs2 => .ok (v :: vs) fs2
theorem imp_nil : ImpG VRs dNil fNil := fun B fs δ η Z Φ s h => h [] η s True.intro
theorem imp_cons (ha : ImpG VR da fa) (hr : ImpG VRs dr fr) : ImpG VRs (dCons da dr) (fCons fa fr) := fun B fs δ η Z Φ s h =>
  ha B fs δ η Z _ s (Post.bind h fun v fs1 d1 η1 s1 r1 h1 => hr (ext B v d1) fs1 δ η1 Z _ (s1.ext_ r1) (Post.bind2 r1 h1 fun vs fs2 ds2 η2 s2 rx s2' rs h2 => h2 (d1 :: ds2) η2 s2 ⟨rx, rs⟩))
def most : Nat := 1000000
theorem le_most {n : Nat} (h : n ≤ most) : n ≤ sizeLine := by rw [sizeLine_eq]; exact Nat.le_trans h (by decide)
def fTup (fr : FA) : FE := fun fs => (fr fs).bind fun vs fs1 => match allD vs with
  | some xs => if xs.length ≤ most then .ok (.d (.tup xs)) fs1 else .bad
  | none => .bad
def fLst (fr : FA) : FE := fun fs => (fr fs).bind fun vs fs1 => match allD vs with
  | some xs => if xs.length ≤ most then .ok (.d (.lst xs)) fs1 else .bad
  | none => .bad
def fLstM (fr : FA) : FE := fun fs => (fr fs).bind fun vs fs1 => match allD vs with
  | some xs => if xs.length ≤ most then .ok (.f (.lst xs)) fs1 else .bad
  | none => .bad
theorem imp_tup (hr : ImpG VRs dr fr) : ImpG VR (dTup dr) (fTup fr) := fun B fs δ η Z Φ s h => hr B fs δ η Z _ s (Post.bind h fun vs fs1 ds1 η1 s1 r1 h1 => by
  split at h1
  · rename_i xs e
    obtain ⟨rfl, n⟩ := r1.allD e
    split at h1
    · rename_i l; exact ⟨le_most l, h1 _ η1 s1 ⟨rfl, n⟩⟩
    · exact h1.elim
  · exact h1.elim)
theorem imp_lst (hr : ImpG VRs dr fr) : ImpG VR (dLst dr) (fLst fr) := fun B fs δ η Z Φ s h => hr B fs δ η Z _ s (Post.bind h fun vs fs1 ds1 η1 s1 r1 h1 => by
  split at h1
  · rename_i xs e
    obtain ⟨rfl, n⟩ := r1.allD e
    split at h1
    · rename_i l; exact ⟨le_most l, h1 _ η1 s1 ⟨rfl, n⟩⟩
    · exact h1.elim
  · exact h1.elim)
theorem imp_lstM (hr : ImpG VRs dr fr) : ImpG VR (dLstM dr) (fLstM fr) := fun B fs δ η Z Φ s h => hr B fs δ η Z _ s (Post.bind h fun vs fs1 ds1 η1 s1 r1 h1 => by
  split at h1
  · rename_i xs e
    obtain ⟨rfl, n⟩ := r1.allD e
    split at h1
    · rename_i l; exact ⟨le_most l, fun p hp => h1 (.ref p) _ (s1.new hp) (VR.new s1 hp n)⟩
    · exact h1.elim
  · exact h1.elim)
variable {dl dh : DO} {fl fh : FO}
def fNoPart : FO := fun fs => .ok none fs
def fPart (fe : FE) : FO := fun fs => (fe fs).bind fun v fs1 => match v with
  | .d (.int i) => .ok (some i) fs1
  | _ => .bad
theorem imp_noPart : ImpG VEq dNoPart fNoPart := fun B fs δ η Z Φ s h => h none η s rfl
theorem imp_part (ha : ImpG VR da fa) : ImpG VEq (dPart da) (fPart fa) := fun B fs δ η Z Φ s h => ha B fs δ η Z _ s (Post.bind h fun v fs1 d1 η1 s1 r1 h1 => by
  split at h1
  · rename_i i
    obtain ⟨rfl, -⟩ := r1
    exact ⟨i, rfl, h1 _ η1 s1 rfl⟩
  · exact h1.elim)
def fSl (g : D → Option Int → Option Int → Option D) (fe : FE) (fl fh : FO) : FE := fun fs => (fe fs).bind fun v fs1 => match v with
  | .f _ => .bad
  | v => (fl fs1).bind fun lo fs2 => (fh fs2).bind fun hi fs3 => match rsv fs3 v with
    | some x => match g x lo hi with
      | some z => .ok (.d z) fs3
      | none => .bad
    | none => .bad
def ImpSl (o : DSl) (g : D → Option Int → Option Int → Option D) : Prop := ∀ η dx lo hi Φ z, nr (rd η dx) = true → g (rd η dx) lo hi = some z → nr z = true ∧ (Φ z η → o dx lo hi η Φ)
theorem VR.keep {B : Om} {fs fs' : FS} {δ : DSt} {η η' : Eta} {v : FV} {d : D} (r : VR B fs δ η v d) (h : ∀ o, v ≠ .f o) : VR B fs' δ η' v d := by
  cases v with
  | d x => exact r
  | s i => exact r
  | f o => exact absurd rfl (h o)
theorem imp_sl {o : DSl} {g : D → Option Int → Option Int → Option D} (ho : ImpSl o g) (ha : ImpG VR da fa) (hl : ImpG VEq dl fl) (hh : ImpG VEq dh fh) : ImpG VR (dSl o da dl dh) (fSl g fa fl fh) := fun B fs δ η Z Φ s h => ha B fs δ η Z _ s (Post.bind h fun v fs1 d1 η1 s1 r1 h1 => by
  have go : (∀ o, v ≠ .f o) → Post B δ VR ((fl fs1).bind fun lo fs2 => (fh fs2).bind fun hi fs3 => match rsv fs3 v with
    | some x => match g x lo hi with
      | some z => .ok (.d z) fs3
      | none => .bad
    | none => .bad) Z Φ → dl Z δ η1 fun lo η2 => dh Z δ η2 fun hi η3 => o d1 lo hi η3 Φ := fun hv h2 => hl B fs1 δ η1 Z _ s1 (Post.bind h2 fun lo fs2 lo' η2 s2 e2 h3 => hh B fs2 δ η2 Z _ s2 (Post.bind h3 fun hi fs3 hi' η3 s3 e3 h4 => by
      obtain rfl : lo = lo' := e2
      obtain rfl : hi = hi' := e3
      split at h4
      · rename_i x ex
        obtain ⟨q1, q2⟩ := (r1.keep (η' := η3) (fs' := fs3) hv).rd s3 ex
        split at h4
        · rename_i z ez
          subst q1
          obtain ⟨n, k⟩ := ho η3 d1 lo hi Φ z q2 ez
          exact k (h4 z η3 s3 ⟨rfl, n⟩)
        · exact h4.elim
      · exact h4.elim))
  cases v with
  | f _ => exact h1.elim
  | d x => exact go (fun _ e => nomatch e) h1
  | s i => exact go (fun _ e => nomatch e) h1)
abbrev FOn := FS → List FV → Rs FV
def ImpOn (o : DCl) (fo : FOn) : Prop := ∀ (B : Om) (fs : FS) (δ : DSt) (η : Eta) (vs : List FV) (ds : List D) (Z : Xk) (Φ : DK), St B fs δ η → VRs B fs δ η vs ds → Post B δ VR (fo fs vs) Z Φ → o ds η Φ
def fCB (fo : FOn) (fr : FA) : FE := fun fs => (fr fs).bind fun vs fs1 => fo fs1 vs
theorem imp_cb {o : DCl} {fo : FOn} (ho : ImpOn o fo) (hr : ImpG VRs dr fr) : ImpG VR (dCB o dr) (fCB fo fr) := fun B fs δ η Z Φ s h => hr B fs δ η Z _ s (Post.bind h fun vs fs1 ds1 η1 s1 r1 h1 => ho B fs1 δ η1 vs ds1 Z Φ s1 r1 h1)
def opn (g : List D → Option D) : FOn := fun fs vs => match rsvs fs vs with
  | some as => match g as with
    | some z => .ok (.d z) fs
    | none => .bad
  | none => .bad
theorem imp_on {o : DCl} {g : List D → Option D} (h : ∀ η ds Φ z, nrs (ds.map (rd η)) = true → g (ds.map (rd η)) = some z → nr z = true ∧ (Φ z η → o ds η Φ)) : ImpOn o (opn g) := fun B fs δ η vs ds Z Φ s r q => by
  unfold opn at q
  split at q
  · rename_i as ea
    obtain ⟨h1, n1⟩ := r.rds s ea
    split at q
    · rename_i z ez
      subst h1
      obtain ⟨n, k⟩ := h η ds Φ z n1 ez
      exact k (q z η s ⟨rfl, n⟩)
    · exact q.elim
  · exact q.elim
/-- a new list that may be changed -/
def opm (g : List D → Option M) : FOn := fun fs vs => match rsvs fs vs with
  | some as => match g as with
    | some o => .ok (.f o) fs
    | none => .bad
  | none => .bad
def fUn (g : D → Option D) (fa : FE) : FE := fun fs => (fa fs).bind fun v fs1 => match rsv fs1 v with
  | some x => match g x with
    | some z => .ok (.d z) fs1
    | none => .bad
  | none => .bad
/-- methods of texts with one argument -/
def fM1 (g : D → List D → Option D) (fa fb : FE) : FE := fun fs => (fa fs).bind fun v fs1 => match v with
  | .d (.str z) => (fb fs1).bind fun w fs2 => match rsv fs2 w with
    | some y => match g (.str z) [y] with
      | some r => .ok (.d r) fs2
      | none => .bad
    | none => .bad
  | _ => .bad
theorem imp_m1 {o : DMt} {g : D → List D → Option D} (ho : ∀ η z d Φ r, nr (rd η d) = true → g (.str z) [rd η d] = some r → nr r = true ∧ (Φ r η → o (.str z) [d] η Φ)) (ha : ImpG VR da fa) (hb : ImpG VR db fb) : ImpG VR (dM1 o da db) (fM1 g fa fb) := fun B fs δ η Z Φ s h => ha B fs δ η Z _ s (Post.bind h fun v fs1 d1 η1 s1 r1 h1 => by
  split at h1
  · rename_i z
    obtain ⟨rfl, -⟩ := r1
    refine ⟨⟨z, rfl⟩, hb B fs1 δ η1 Z _ s1 (Post.bind h1 fun w fs2 d2 η2 s2 r2 h2 => ?_)⟩
    split at h2
    · rename_i y ey
      obtain ⟨q1, q2⟩ := r2.rd s2 ey
      split at h2
      · rename_i r er
        subst q1
        obtain ⟨n, k⟩ := ho η2 z d2 Φ r q2 er
        exact k (h2 r η2 s2 ⟨rfl, n⟩)
      · exact h2.elim
    · exact h2.elim
  · exact h1.elim)
def fFld (cs : List Addr) (f : Str) (fa : FE) : FE := fun fs => (fa fs).bind fun v fs1 => match rsv fs1 v with
  | some (.obj C ns es) => if cs.contains C then match lkp ns es f with
    | some d => .ok (.d d) fs1
    | none => .bad
    else .bad
  | _ => .bad
end
end DL
end
section
set_option Elab.async false
set_option linter.all false
set_option autoImplicit false
set_option maxRecDepth 100000
set_option maxHeartbeats 4000000
namespace DL
open PySem PySem.Spec PyProof.Rows L2
inductive O where
  | nx (s : FS)
  | rt (v : FV) (s : FS)
  | bk (s : FS)
  | ct (s : FS)
  | ex (x : D) (s : FS)
  | bad
abbrev FSt := FS → O
def PostS (B : Om) (r : O) (Z : Xk) (P : DEnds) : Prop := match r with
  | .nx fs' => ∀ δ' η', St B fs' δ' η' → P.nx δ' η'
  | .rt v fs' => ∀ d δ' η', St B fs' δ' η' → VR B fs' δ' η' v d → P.rt d η'
  | .bk fs' => ∀ δ' η', St B fs' δ' η' → P.bk δ' η'
  | .ct fs' => ∀ δ' η', St B fs' δ' η' → P.ct δ' η'
  | .ex x fs' => ∀ δ' η', St B fs' δ' η' → nr x = true → Z x η'
  | .bad => False
def ImpS (t : DS) (f : FSt) : Prop := ∀ (B : Om) (fs : FS) (δ : DSt) (η : Eta) (Z : Xk) (P : DEnds), St B fs δ η → PostS B (f fs) Z P → t Z P δ η
def Rs.thn {α : Type} (r : Rs α) (g : α → FS → O) : O := match r with
  | .ok a s => g a s
  | .ex x s => .ex x s
  | .bad => .bad
theorem Post.thn {γ ε : Type} {B : Om} {δ : DSt} {Z : Xk} {P : DEnds} {Ψ : ε → Eta → Prop} {Rl : Om → FS → DSt → Eta → γ → ε → Prop} {r : Rs γ} {g : γ → FS → O} (h : PostS B (r.thn g) Z P) (k : ∀ v fs1 d η1, St B fs1 δ η1 → Rl B fs1 δ η1 v d → PostS B (g v fs1) Z P → Ψ d η1) : Post B δ Rl r Z Ψ := by
  cases r with
  | ok v fs1 => exact fun d η1 s rl => k v fs1 d η1 s rl h
  | ex x fs1 => exact fun η1 s n => h δ η1 s n
  | bad => exact h
section
variable {t u : DS} {f g : FSt} {de : DE} {fe : FE} {dt : DT} {ft : FT}
def sNext : FSt := fun fs => .nx fs
def O.seq (o : O) (g : FSt) : O := match o with
  | .nx s => g s
  | o => o
def sSeq (f g : FSt) : FSt := fun fs => (f fs).seq g
theorem imps_next : ImpS dNext sNext := fun B fs δ η Z P s h => h δ η s
theorem imps_seq (hf : ImpS t f) (hg : ImpS u g) : ImpS (dSeq t u) (sSeq f g) := fun B fs δ η Z P s h => by
  refine hf B fs δ η Z _ s ?_
  have h : PostS B ((f fs).seq g) Z P := h
  cases e : f fs with
  | nx fs1 => rw [e] at h; exact fun δ' η' s' => hg B fs1 δ' η' Z P s' h
  | rt v fs1 => rw [e] at h; exact h
  | bk fs1 => rw [e] at h; exact h
  | ct fs1 => rw [e] at h; exact h
  | ex x fs1 => rw [e] at h; exact h
  | bad => rw [e] at h; exact h
def sBreak : FSt := fun fs => .bk fs
def sCont : FSt := fun fs => .ct fs
def sDrop (fe : FE) : FSt := fun fs => (fe fs).thn fun _ fs1 => .nx fs1
def sRet (fe : FE) : FSt := fun fs => (fe fs).thn fun v fs1 => .rt v fs1
theorem imps_ret (he : ImpG VR de fe) : ImpS (dRet de) (sRet fe) := fun B fs δ η Z P s h => he B fs δ η Z _ s (Post.thn h fun v fs1 d1 η1 s1 r1 h1 => h1 d1 δ η1 s1 r1)
def sRetN : FSt := fun fs => .rt (.d .non) fs
def sIf (ft : FT) (f g : FSt) : FSt := fun fs => (ft fs).thn fun b fs1 => if b = true then f fs1 else g fs1
theorem imps_if (ht : ImpG VEq dt ft) (hf : ImpS t f) (hg : ImpS u g) : ImpS (dIfS dt t u) (sIf ft f g) := fun B fs δ η Z P s h => ht B fs δ η Z _ s (Post.thn h fun b fs1 d1 η1 s1 r1 h1 => by
  obtain rfl : b = d1 := r1
  cases b with
  | true => exact hf B fs1 δ η1 Z P s1 h1
  | false => exact hg B fs1 δ η1 Z P s1 h1)
def sNever : FSt := fun _ => .bad
theorem imps_never : ImpS dNever sNever := fun B fs δ η Z P s h => h
end
def fFrz (fe : FE) : FE := fun fs => (fe fs).bind fun v fs1 => match v with
  | .d x => .ok (.d x) fs1
  | .f o => .ok (.d (mD o)) fs1
  | .s i => match fs1[i]? with
    | some (some (.m false o)) => .ok (.d (mD o)) (fs1.set i none)
    | _ => .bad
section
variable {B : Om} {fs : FS} {δ : DSt} {η : Eta} {i : Nat} {p : Addr} {o o' : M} {pr : Bool} {sv : Sv} {x d : D} {v : FV}
theorem get_set {α : Type} {l : List α} {i j : Nat} {a b : α} (h : (l.set i a)[j]? = some b) : (i = j ∧ b = a ∧ i < l.length) ∨ (i ≠ j ∧ l[j]? = some b) := by
  by_cases e : i = j
  · subst e
    by_cases lt : i < l.length
    · rw [List.getElem?_set_self lt] at h; cases h; exact .inl ⟨rfl, rfl, lt⟩
    · rw [List.getElem?_eq_none (by simpa using lt)] at h; cases h
  · rw [List.getElem?_set_ne e] at h; exact .inr ⟨e, h⟩
/-- a slot is emptied -/
theorem St.none_ (s : St B fs δ η) (h : ∀ o, fs[i]? ≠ some (some (.l o))) : St B (fs.set i none) δ η := by
  refine ⟨by rw [List.length_set]; exact s.len, fun j x e => ?_, fun j pr o e => ?_, fun j o e => ?_, fun j p e => ?_, fun j k pr pr' o o' p e1 e2 => ?_, s.fr, s.pn⟩
  · rcases get_set e with ⟨-, e, -⟩ | ⟨-, e⟩
    · cases e
    · exact s.d j x e
  · rcases get_set e with ⟨-, e, -⟩ | ⟨-, e⟩
    · cases e
    · exact s.m j pr o e
  · rcases get_set e with ⟨-, e, -⟩ | ⟨-, e⟩
    · cases e
    · exact s.l j o e
  · obtain ⟨⟨o, q⟩, q2⟩ := s.lk j p e
    have ne : i ≠ j := by rintro rfl; exact h o q
    exact ⟨⟨o, by rw [List.getElem?_set_ne ne]; exact q⟩, q2⟩
  · rcases get_set e1 with ⟨-, e1, -⟩ | ⟨-, e1⟩
    · cases e1
    · rcases get_set e2 with ⟨-, e2, -⟩ | ⟨-, e2⟩
      · cases e2
      · exact s.inj j k pr pr' o o' p e1 e2
/-- a slot's own object loses its name -/
theorem St.frs_slot (s : St B fs δ η) (e : fs[i]? = some (some (.m false o))) (q : δ[i]? = some (some (.ref p))) : Frs B (fs.set i none) δ p := by
  obtain ⟨p', q1, q2, q3, q4, q5, q6⟩ := s.m i false o e
  rw [q] at q1; cases q1
  refine ⟨q3, fun j pr o' e2 q7 => ?_, q6 rfl, fun j e3 => ?_⟩
  · rcases get_set e2 with ⟨-, e2, -⟩ | ⟨ne, e2⟩
    · cases e2
    · exact ne (s.inj i j _ _ _ _ p e e2 q q7)
  · exact (s.lk j p e3).2 q3
end
abbrev FG := FV → FS → Option FS
abbrev FGs := List D → FS → Option FS
def Agr (vs : List Nat) (δ' δ : DSt) : Prop := δ'.length = δ.length ∧ ∀ i, i ∉ vs → δ'[i]? = δ[i]?
def PG' (B : Om) (δ : DSt) (vs : List Nat) (r : Option FS) (Ψ : DSt → Eta → Prop) : Prop := match r with
  | some fs' => ∀ δ' η', St B fs' δ' η' → Agr vs δ' δ → Ψ δ' η'
  | none => False
def ImpT (vs : List Nat) (dg : DG) (g : FG) : Prop := ∀ (B : Om) (fs : FS) (δ : DSt) (η : Eta) (v : FV) (d : D) (Ψ : DSt → Eta → Prop), St B fs δ η → VR B fs δ η v d → PG' B δ vs (g v fs) Ψ → dg d δ η Ψ
def ImpTs (vs : List Nat) (dg : DGs) (g : FGs) : Prop := ∀ (B : Om) (fs : FS) (δ : DSt) (η : Eta) (ds : List D) (Ψ : DSt → Eta → Prop), St B fs δ η → nrs ds = true → PG' B δ vs (g ds fs) Ψ → dg ds δ η Ψ
def isL (fs : FS) (i : Nat) : Bool := match fs[i]? with
  | some (some (.l _)) => true
  | _ => false
theorem isL_no {fs : FS} {i : Nat} (h : isL fs i = false) : ∀ o, fs[i]? ≠ some (some (.l o)) := fun o e => by simp [isL, e] at h
def gName (i : Nat) : FG := fun v fs => if isL fs i = true then none else match v with
  | .d x => some (fs.set i (some (.d x)))
  | .f o => some (fs.set i (some (.m false o)))
  | .s j => match fs[j]? with
    | some (some (.m false o)) => some ((fs.set j none).set i (some (.m false o)))
    | _ => none
section
variable {B : Om} {fs : FS} {δ : DSt} {η : Eta} {i j : Nat} {p : Addr} {o o' : M} {pr : Bool} {sv : Sv} {x d : D} {v : FV}
theorem St.setD (s : St B fs δ η) (h : isL fs i = false) (n : nr x = true) : St B (fs.set i (some (.d x))) (δ.set i (some x)) η := by
  have hl := s.len
  refine ⟨by rw [List.length_set, List.length_set]; exact s.len, fun j y e => ?_, fun j pr o e => ?_, fun j o e => ?_, fun j p e => ?_, fun j k pr pr' o o' p e1 e2 h1 h2 => ?_, s.fr, s.pn⟩
  · rcases get_set e with ⟨rfl, e, lt⟩ | ⟨ne, e⟩
    · cases e; exact ⟨by rw [List.getElem?_set_self (by omega)], n⟩
    · rw [List.getElem?_set_ne ne]; exact s.d j y e
  · rcases get_set e with ⟨-, e, -⟩ | ⟨ne, e⟩
    · cases e
    · rw [List.getElem?_set_ne ne]; exact s.m j pr o e
  · rcases get_set e with ⟨-, e, -⟩ | ⟨ne, e⟩
    · cases e
    · rw [List.getElem?_set_ne ne]; exact s.l j o e
  · obtain ⟨⟨o, q⟩, q2⟩ := s.lk j p e
    have ne : i ≠ j := by rintro rfl; exact isL_no h o q
    exact ⟨⟨o, by rw [List.getElem?_set_ne ne]; exact q⟩, q2⟩
  · rcases get_set e1 with ⟨-, e1, -⟩ | ⟨ne1, e1⟩
    · cases e1
    · rcases get_set e2 with ⟨-, e2, -⟩ | ⟨ne2, e2⟩
      · cases e2
      · rw [List.getElem?_set_ne ne1] at h1
        rw [List.getElem?_set_ne ne2] at h2
        exact s.inj j k pr pr' o o' p e1 e2 h1 h2
theorem St.setM (s : St B fs δ η) (h : isL fs i = false) (f : Frs B fs δ p) (hp : η p = some o) (n : nrM o) : St B (fs.set i (some (.m false o))) (δ.set i (some (.ref p))) η := by
  have hl := s.len
  refine ⟨by rw [List.length_set, List.length_set]; exact s.len, fun j y e => ?_, fun j pr o e => ?_, fun j o e => ?_, fun j p e => ?_, fun j k pr pr' o o' p' e1 e2 h1 h2 => ?_, s.fr, s.pn⟩
  · rcases get_set e with ⟨-, e, -⟩ | ⟨ne, e⟩
    · cases e
    · rw [List.getElem?_set_ne ne]; exact s.d j y e
  · rcases get_set e with ⟨rfl, e, lt⟩ | ⟨ne, e⟩
    · cases e; exact ⟨p, by rw [List.getElem?_set_self (by omega)], hp, f.b, n, (fun z => by cases z), fun _ => f.ps⟩
    · rw [List.getElem?_set_ne ne]; exact s.m j pr o e
  · rcases get_set e with ⟨-, e, -⟩ | ⟨ne, e⟩
    · cases e
    · rw [List.getElem?_set_ne ne]; exact s.l j o e
  · obtain ⟨⟨o, q⟩, q2⟩ := s.lk j p e
    have ne : i ≠ j := by rintro rfl; exact isL_no h o q
    exact ⟨⟨o, by rw [List.getElem?_set_ne ne]; exact q⟩, q2⟩
  · rcases get_set e1 with ⟨rfl, e1, lt⟩ | ⟨ne1, e1⟩
    · rw [List.getElem?_set_self (by omega)] at h1
      cases h1
      rcases get_set e2 with ⟨rfl, e2, -⟩ | ⟨ne2, e2⟩
      · rfl
      · rw [List.getElem?_set_ne ne2] at h2
        exact absurd h2 (f.sl k _ _ e2)
    · rw [List.getElem?_set_ne ne1] at h1
      rcases get_set e2 with ⟨rfl, e2, lt⟩ | ⟨ne2, e2⟩
      · rw [List.getElem?_set_self (by omega)] at h2
        cases h2
        exact absurd h1 (f.sl j _ _ e1)
      · rw [List.getElem?_set_ne ne2] at h2
        exact s.inj j k pr pr' o o' p' e1 e2 h1 h2
theorem St.name_ (s : St B fs δ η) (r : VR B fs δ η v d) {fs' : FS} (h : gName i v fs = some fs') : St B fs' (δ.set i (some d)) η := by
  unfold gName at h
  split at h
  · cases h
  · rename_i hl
    have hl : isL fs i = false := by simpa using hl
    split at h
    · cases h
      obtain ⟨rfl, n⟩ := r
      exact s.setD hl n
    · cases h
      obtain ⟨p, rfl, h1, n, f⟩ := r
      exact s.setM hl f h1 n
    · rename_i j
      split at h
      · rename_i o e
        cases h
        obtain ⟨p, q1, q2, q3, q4, q5, q6⟩ := s.m j false o e
        have r : δ[j]? = some (some d) := r
        rw [q1] at r; cases r
        have nl : ∀ o, fs[j]? ≠ some (some (.l o)) := fun o' z => by rw [e] at z; cases z
        refine (s.none_ nl).setM ?_ (s.frs_slot e q1) q2 q4
        unfold isL at *
        by_cases ij : j = i
        · subst ij
          by_cases lt : j < fs.length
          · rw [List.getElem?_set_self lt]
          · rw [List.getElem?_eq_none (by simpa using lt)]
        · rw [List.getElem?_set_ne ij]; exact hl
      · cases h
theorem impt_name : ImpT [i] (dName i) (gName i) := fun B fs δ η v d Ψ s r h => by
  cases e : gName i v fs with
  | none => rw [e] at h; exact h.elim
  | some fs' =>
    rw [e] at h
    exact h _ η (s.name_ r e) ⟨by simp, fun j hj => List.getElem?_set_ne (by rintro rfl; exact hj List.mem_cons_self)⟩
end
def fgNil : FGs := fun ds fs => match ds with
  | [] => some fs
  | _ => none
def fgCons (g : FG) (gs : FGs) : FGs := fun ds fs => match ds with
  | d :: r => match g (.d d) fs with
    | some fs1 => gs r fs1
    | none => none
  | _ => none
theorem impts_nil : ImpTs [] dgNil fgNil := fun B fs δ η ds Ψ s n h => by
  unfold fgNil at h
  split at h
  · exact ⟨rfl, h δ η s ⟨rfl, fun _ _ => rfl⟩⟩
  · exact h.elim
theorem impts_cons {vs ws : List Nat} {dg : DG} {g : FG} {dgs : DGs} {gs : FGs} (h1 : ImpT vs dg g) (h2 : ImpTs ws dgs gs) : ImpTs (vs ++ ws) (dgCons dg dgs) (fgCons g gs) := fun B fs δ η ds Ψ s n h => by
  unfold fgCons at h
  split at h
  · rename_i d r
    have n1 : nr d = true := nrs_mem n List.mem_cons_self
    have n2 : nrs r = true := nrs_of fun x hx => nrs_mem n (List.mem_cons_of_mem _ hx)
    refine ⟨d, r, rfl, h1 B fs δ η (.d d) d _ s ⟨rfl, n1⟩ ?_⟩
    split at h
    · rename_i fs1 e
      rw [e]
      intro δ1 η1 s1 q1
      refine h2 B fs1 δ1 η1 r Ψ s1 n2 ?_
      cases e2 : gs r fs1 with
      | none => rw [e2] at h; exact h
      | some fs2 =>
        rw [e2] at h
        exact fun δ2 η2 s2 q2 => h δ2 η2 s2 ⟨q2.1.trans q1.1, fun i hi => (q2.2 i fun z => hi (List.mem_append_right _ z)).trans (q1.2 i fun z => hi (List.mem_append_left _ z))⟩
    · exact h.elim
  · exact h.elim
def gTup (n : Nat) (gs : FGs) : FG := fun v fs => match v with
  | .d (.tup xs) => if xs.length = n then gs xs fs else none
  | _ => none
theorem impt_tup {vs : List Nat} {n : Nat} {dgs : DGs} {gs : FGs} (h : ImpTs vs dgs gs) : ImpT vs (dTupG n dgs) (gTup n gs) := fun B fs δ η v d Ψ s r q => by
  unfold gTup at q
  split at q
  · rename_i xs
    obtain ⟨rfl, nn⟩ := r
    split at q
    · rename_i l
      exact ⟨xs, rfl, l, h B fs δ η xs Ψ s (by simpa [nr] using nn) q⟩
    · exact q.elim
  · exact q.elim
def sAsg (fe : FE) (g : FG) : FSt := fun fs => (fe fs).thn fun v fs1 => match g v fs1 with
  | some fs2 => .nx fs2
  | none => .bad
theorem imps_asg {vs : List Nat} {de : DE} {fe : FE} {dg : DG} {g : FG} (he : ImpG VR de fe) (hg : ImpT vs dg g) : ImpS (dAsg de dg) (sAsg fe g) := fun B fs δ η Z P s h => he B fs δ η Z _ s (Post.thn h fun v fs1 d1 η1 s1 r1 h1 => by
  refine hg B fs1 δ η1 v d1 _ s1 r1 ?_
  split at h1
  · rename_i fs2 e
    rw [e]; exact fun δ' η' s' _ => h1 δ' η' s'
  · exact h1.elim)
section
variable {B : Om} {fs : FS} {δ : DSt} {η : Eta} {i j : Nat} {p : Addr} {o o' : M} {pr : Bool} {sv : Sv} {x d : D} {v : FV}
theorem St.put (s : St B fs δ η) (e : fs[i]? = some (some (.m pr o))) (q : δ[i]? = some (some (.ref p))) (n : nrM o') : St B (fs.set i (some (.m pr o'))) δ (eup η p o') := by
  have hl := s.len
  obtain ⟨p', q1, q2, q3, q4, q5, q6⟩ := s.m i pr o e
  rw [q] at q1; cases q1
  have lt : i < fs.length := (List.getElem?_eq_some_iff.mp e).1
  refine ⟨by rw [List.length_set]; exact s.len, fun j y e => ?_, fun j pr2 o2 e2 => ?_, fun j o2 e2 => ?_, fun j a e2 => ?_, fun j k pr1 pr2 o1 o2 a e1 e2 h1 h2 => ?_, fun a o2 e2 => ?_, fun j a e2 => ?_⟩
  · rcases get_set e with ⟨-, e, -⟩ | ⟨ne, e⟩
    · cases e
    · exact s.d j y e
  · rcases get_set e2 with ⟨rfl, e2, -⟩ | ⟨ne, e2⟩
    · cases e2; exact ⟨p, q, eup_same, q3, n, q5, q6⟩
    · obtain ⟨a, a1, a2, a3⟩ := s.m j pr2 o2 e2
      have na : a ≠ p := by rintro rfl; exact ne (s.inj i j _ _ _ _ _ e e2 q a1)
      exact ⟨a, a1, by rw [eup_ne na]; exact a2, a3⟩
  · rcases get_set e2 with ⟨-, e2, -⟩ | ⟨ne, e2⟩
    · cases e2
    · exact s.l j o2 e2
  · obtain ⟨⟨o3, q8⟩, q9⟩ := s.lk j a e2
    have ne : i ≠ j := by rintro rfl; rw [e] at q8; cases q8
    exact ⟨⟨o3, by rw [List.getElem?_set_ne ne]; exact q8⟩, q9⟩
  · have f : ∀ {m : Nat} {prx : Bool} {ox : M}, (fs.set i (some (Sv.m pr o')))[m]? = some (some (Sv.m prx ox)) → ∃ (pry : Bool) (oy : M), fs[m]? = some (some (Sv.m pry oy)) := fun {m prx ox} z => by
      rcases get_set z with ⟨rfl, -, -⟩ | ⟨-, z⟩
      · exact ⟨_, _, e⟩
      · exact ⟨_, _, z⟩
    obtain ⟨_, _, f1⟩ := f e1
    obtain ⟨_, _, f2⟩ := f e2
    exact s.inj j k _ _ _ _ a f1 f2 h1 h2
  · have ne : a ≠ p := by rintro rfl; rw [q3] at e2; cases e2
    rw [eup_ne ne]; exact s.fr a o2 e2
  · by_cases ne : a = p
    · subst ne; rw [eup_same]; simp
    · rw [eup_ne ne]; exact s.pn j a e2
end
/-- o[i] = v of an own object -/
def gSub (gs : M → D → D → Option M) (fo fi : FE) : FG := fun v fs => match v with
  | .d z => match fo fs with
    | .ok (.s k) fs1 => match fi fs1 with
      | .ok w fs2 => match rsv fs2 w, fs2[k]? with
        | some y, some (some (.m pr o)) => match gs o y z with
          | some o' => some (fs2.set k (some (.m pr o')))
          | none => none
        | _, _ => none
      | _ => none
    | _ => none
  | _ => none
def ImpSet (o : DSet) (gs : M → D → D → Option M) : Prop := ∀ η p dy z m m' Φ, η p = some m → nrM m → nr z = true → gs m (rd η dy) z = some m' → nrM m' ∧ (Φ (eup η p m') → o (.ref p) dy z η Φ)
theorem impt_sub {do_ di : DE} {fo fi : FE} {o : DSet} {gs : M → D → D → Option M} (hs : ImpSet o gs) (ho : ImpG VR do_ fo) (hi : ImpG VR di fi) : ImpT [] (dSub do_ di o) (gSub gs fo fi) := fun B fs δ η v d Ψ s r h => by
  cases v with
  | s _ => exact h.elim
  | f _ => exact h.elim
  | d z =>
    obtain ⟨rfl, nz⟩ := r
    have h : PG' B δ [] (match fo fs with
      | .ok (.s k) fs1 => match fi fs1 with
        | .ok w fs2 => match rsv fs2 w, fs2[k]? with
          | some y, some (some (.m pr o)) => match gs o y d with
            | some o' => some (fs2.set k (some (.m pr o')))
            | none => none
          | _, _ => none
        | _ => none
      | _ => none) Ψ := h
    refine ho B fs δ η Z0 _ s ?_
    split at h
    · rename_i k fs1 e1
      rw [e1]
      intro d1 η1 s1 r1
      have r1 : δ[k]? = some (some d1) := r1
      refine hi B fs1 δ η1 Z0 _ s1 ?_
      split at h
      · rename_i w fs2 e2
        rw [e2]
        intro d2 η2 s2 r2
        split at h
        · rename_i y pr o ey eo
          obtain ⟨q1, q2⟩ := r2.rd s2 ey
          obtain ⟨p, p1, p2, p3, p4, p5⟩ := s2.m k pr o eo
          rw [p1] at r1; cases r1
          split at h
          · rename_i o' eo'
            subst q1
            obtain ⟨n, kk⟩ := hs η2 p d2 d o o' (fun η3 => Ψ δ η3) p2 p4 nz eo'
            exact kk (h δ _ (s2.put eo p1 n) ⟨rfl, fun _ _ => rfl⟩)
          · exact h.elim
        · exact h.elim
      · exact h.elim
    · exact h.elim
/-- o.f = v of an own object -/
def gFldF (cs : List Addr) (f : Str) (fo : FE) : FG := fun v fs => match v with
  | .d z => match fo fs with
    | .ok (.s k) fs1 => match fs1[k]? with
      | some (some (.m pr (.ins C ns es))) => if cs.contains C && decide (ns.length < 1000) then some (fs1.set k (some (.m pr (.ins C (putN ns f) (putD ns es f z))))) else none
      | _ => none
    | _ => none
  | _ => none
end DL
end
section
set_option Elab.async false
set_option linter.all false
set_option autoImplicit false
set_option maxRecDepth 100000
set_option maxHeartbeats 4000000
namespace DL
open PySem PySem.Spec PyProof.Rows L2
def FV.isS : FV → Bool
  | .s _ => true
  | _ => false
/-- values that stand by themselves, their objects different ones -/
def VRp (B : Om) (fs : FS) (δ : DSt) (η : Eta) : List FV → List D → Prop
  | [], [] => True
  | v :: vs, d :: ds => (VR B fs δ η v d ∧ v.isS = false ∧ ∀ p, d = .ref p → D.ref p ∉ ds) ∧ VRp B fs δ η vs ds
  | _, _ => False
section
variable {B : Om} {fs fs' : FS} {δ : DSt} {η : Eta} {i : Nat} {v w : FV} {d e : D} {p : Addr} {o : M}
theorem VRs.one {vs : List FV} {ds : List D} (r : VRs B fs δ η vs ds) : vs.length = ds.length ∧ ∀ (k : Nat) (v : FV) (d : D), vs[k]? = some v → ds[k]? = some d → VR B fs δ η v d := by
  induction vs generalizing ds B with
  | nil =>
    cases ds with
    | nil => exact ⟨rfl, fun k v d h => by simp at h⟩
    | cons _ _ => exact r.elim
  | cons v vs ih =>
    cases ds with
    | nil => exact r.elim
    | cons d ds =>
      obtain ⟨r1, r2⟩ := r
      obtain ⟨h1, h2⟩ := ih r2
      refine ⟨by simp [h1], fun k w e hw he => ?_⟩
      cases k with
      | zero => cases hw; cases he; exact r1
      | succ k => exact r1.unext (h2 k w e (by simpa using hw) (by simpa using he))
theorem VRs.noref {vs : List FV} {ds : List D} (r : VRs B fs δ η vs ds) (hb : B.b p ≠ none) (hs : ∀ v ∈ vs, v.isS = false) : D.ref p ∉ ds := by
  intro hm
  obtain ⟨h1, h2⟩ := r.one
  obtain ⟨k, hk⟩ := List.mem_iff_getElem?.mp hm
  have lt : k < vs.length := by rw [h1]; exact (List.getElem?_eq_some_iff.mp hk).1
  have q := h2 k vs[k] (.ref p) (List.getElem?_eq_getElem lt) hk
  have ns := hs vs[k] (List.getElem_mem lt)
  cases e : vs[k] with
  | d x => rw [e] at q; obtain ⟨rfl, n⟩ := q; simp [nr] at n
  | s i => rw [e] at ns; cases ns
  | f o => rw [e] at q; obtain ⟨p', e', _, _, f⟩ := q; cases e'; exact hb f.b
theorem VRs.pp {vs : List FV} {ds : List D} (r : VRs B fs δ η vs ds) (hs : ∀ v ∈ vs, v.isS = false) : VRp B fs δ η vs ds := by
  have key : ∀ (vs : List FV) (ds : List D) (B' : Om), (∀ v d, VR B' fs δ η v d → VR B fs δ η v d) → VRs B' fs δ η vs ds → (∀ v ∈ vs, v.isS = false) → VRp B fs δ η vs ds := by
    intro vs
    induction vs with
    | nil => intro ds B' _ r _; cases ds with
      | nil => exact True.intro
      | cons _ _ => exact r.elim
    | cons v vs ih =>
      intro ds B' k r hs
      cases ds with
      | nil => exact r.elim
      | cons d ds =>
        obtain ⟨r1, r2⟩ := r
        refine ⟨⟨k _ _ r1, hs v List.mem_cons_self, fun p hp => ?_⟩, ih ds (ext B' v d) (fun w e q => k _ _ (r1.unext q)) r2 fun w hw => hs w (List.mem_cons_of_mem _ hw)⟩
        subst hp
        refine r2.noref ?_ fun w hw => hs w (List.mem_cons_of_mem _ hw)
        cases v with
        | d x => obtain ⟨rfl, n⟩ := r1; simp [nr] at n
        | s i => have := hs (.s i) List.mem_cons_self; cases this
        | f o => show eup B'.b p o p ≠ none; rw [eup_same]; simp
  exact key vs ds B (fun _ _ h => h) r hs
/-- a value beside one that is stored -/
theorem VR.stored (r : VR B fs δ η v d) (hv : v.isS = false) (hw : w.isS = false) (q : VR B fs δ η w e) (ne : ∀ p, d = .ref p → e ≠ .ref p) (h : gName i v fs = some fs') : VR B fs' (δ.set i (some d)) η w e := by
  cases w with
  | d x => exact q
  | s j => cases hw
  | f o' =>
    obtain ⟨p', rfl, h1, n, f⟩ := q
    refine ⟨p', rfl, h1, n, f.b, fun k pr o2 e2 q2 => ?_, f.ps, f.lk⟩
    unfold gName at h
    split at h
    · cases h
    · split at h
      · cases h
        rcases get_set e2 with ⟨-, e2, -⟩ | ⟨ik, e2⟩
        · cases e2
        · rw [List.getElem?_set_ne ik] at q2; exact f.sl k pr o2 e2 q2
      · cases h
        rcases get_set e2 with ⟨rfl, e2, lt⟩ | ⟨ik, e2⟩
        · rcases get_set q2 with ⟨-, q2, -⟩ | ⟨z, -⟩
          · cases q2; exact ne p' rfl rfl
          · exact z rfl
        · rw [List.getElem?_set_ne ik] at q2; exact f.sl k pr o2 e2 q2
      · cases hv
end
def storeN : List Nat → List FV → FS → Option FS
  | [], [], fs => some fs
  | i :: is, v :: vs, fs => if v.isS = true then none else match gName i v fs with
    | some fs1 => storeN is vs fs1
    | none => none
  | _, _, _ => none
def setN : List Nat → List D → DSt → DSt
  | i :: is, d :: ds, δ => setN is ds (δ.set i (some d))
  | _, _, δ => δ
theorem VRp.stored {B : Om} {fs fs' : FS} {δ : DSt} {η : Eta} {i : Nat} {v : FV} {d : D} (r : VR B fs δ η v d) (hv : v.isS = false) (h : gName i v fs = some fs') : ∀ {vs : List FV} {ds : List D}, (∀ p, d = .ref p → D.ref p ∉ ds) → VRp B fs δ η vs ds → VRp B fs' (δ.set i (some d)) η vs ds
  | [], [], _, _ => True.intro
  | [], _ :: _, _, q => q.elim
  | _ :: _, [], _, q => q.elim
  | w :: vs, e :: ds, ne, ⟨⟨q1, q2, q3⟩, q4⟩ => ⟨⟨r.stored hv q2 q1 (fun p hp he => ne p hp (by rw [he]; exact List.mem_cons_self)) h, q2, q3⟩, VRp.stored r hv h (fun p hp z => ne p hp (List.mem_cons_of_mem _ z)) q4⟩
theorem storeN_ok {B : Om} {η : Eta} : ∀ {is : List Nat} {vs : List FV} {ds : List D} {fs fs' : FS} {δ : DSt}, St B fs δ η → VRp B fs δ η vs ds → storeN is vs fs = some fs' → St B fs' (setN is ds δ) η ∧ ds.length = is.length
  | [], [], [], fs, fs', δ, s, r, h => by cases h; exact ⟨s, rfl⟩
  | [], [], _ :: _, fs, fs', δ, s, r, h => r.elim
  | [], _ :: _, _, fs, fs', δ, s, r, h => by cases h
  | _ :: _, [], _, fs, fs', δ, s, r, h => by cases h
  | i :: is, v :: vs, [], fs, fs', δ, s, r, h => r.elim
  | i :: is, v :: vs, d :: ds, fs, fs', δ, s, ⟨⟨r1, r2, r3⟩, r4⟩, h => by
    unfold storeN at h
    rw [r2] at h
    simp only [Bool.false_eq_true, if_false] at h
    split at h
    · rename_i fs1 e
      obtain ⟨h1, h2⟩ := storeN_ok (s.name_ r1 e) (VRp.stored r1 r2 e r3 r4) h
      exact ⟨h1, by simp [h2]⟩
    · cases h
def sPar (is : List Nat) (fr : FA) : FSt := fun fs => (fr fs).thn fun vs fs1 => if vs.all (fun v => !v.isS) then match storeN is vs fs1 with
    | some fs2 => .nx fs2
    | none => .bad
  else .bad
theorem imps_par {i j : Nat} {dr : DA} {fr : FA} (hr : ImpG VRs dr fr) : ImpS (dPar i j dr) (sPar [i, j] fr) := fun B fs δ η Z P s h => by
  refine hr B fs δ η Z _ s (Post.thn h fun vs fs1 ds1 η1 s1 r1 h1 => ?_)
  split at h1
  · rename_i hs
    have hs : ∀ v ∈ vs, v.isS = false := fun v hv => by simpa using List.all_eq_true.mp hs v hv
    split at h1
    · rename_i fs2 e
      obtain ⟨q1, q2⟩ := storeN_ok s1 (r1.pp hs) e
      match ds1, q2 with
      | [a, b], _ => exact ⟨a, b, rfl, h1 _ η1 q1⟩
    · exact h1.elim
  · exact h1.elim
/-- x op= e -/
def sAug (i : Nat) (fe : FE) (o : FO2) : FSt := fun fs => match fs[i]? with
  | some (some (.d x)) => (fe fs).thn fun y fs1 => (o fs1 (.d x) y).thn fun z fs2 => match gName i z fs2 with
    | some fs3 => .nx fs3
    | none => .bad
  | _ => .bad
def loopO (k : FSt) : O → O
  | .nx s => k s
  | .ct s => k s
  | .bk s => .nx s
  | .rt v s => .rt v s
  | .ex x s => .ex x s
  | .bad => .bad
def fForL (g : FG) (body : FSt) : List D → FSt
  | [] => fun fs => .nx fs
  | x :: xs => fun fs => match g (.d x) fs with
    | none => .bad
    | some fs1 => loopO (fForL g body xs) (body fs1)
theorem imp_forL {vs : List Nat} {dg : DG} {g : FG} {db : DS} {body : FSt} (hg : ImpT vs dg g) (hb : ImpS db body) {B : Om} {G : Eta → Prop} (hG : ∀ fs δ η, St B fs δ η → G η) {Z : Xk} {P : DEnds} : ∀ (xs : List D) (fs : FS) (δ : DSt) (η : Eta), nrs xs = true → St B fs δ η → PostS B (fForL g body xs fs) Z P → dForL dg db Z P G xs δ η
  | [], fs, δ, η, n, s, h => ⟨hG fs δ η s, h δ η s⟩
  | x :: xs, fs, δ, η, n, s, h => by
    have n1 : nr x = true := nrs_mem n List.mem_cons_self
    have n2 : nrs xs = true := nrs_of fun y hy => nrs_mem n (List.mem_cons_of_mem _ hy)
    refine ⟨hG fs δ η s, hg B fs δ η (.d x) x _ s ⟨rfl, n1⟩ ?_⟩
    have h : PostS B (match g (.d x) fs with
      | none => .bad
      | some fs1 => loopO (fForL g body xs) (body fs1)) Z P := h
    cases e : g (.d x) fs with
    | none => rw [e] at h; exact h
    | some fs1 =>
      rw [e] at h
      have h : PostS B (loopO (fForL g body xs) (body fs1)) Z P := h
      intro δ1 η1 s1 _
      refine hb B fs1 δ1 η1 Z _ s1 ?_
      cases e2 : body fs1 with
      | nx fs2 => rw [e2] at h; exact fun δ2 η2 s2 => imp_forL hg hb hG xs fs2 δ2 η2 n2 s2 h
      | ct fs2 => rw [e2] at h; exact fun δ2 η2 s2 => imp_forL hg hb hG xs fs2 δ2 η2 n2 s2 h
      | bk fs2 => rw [e2] at h; exact h
      | rt v fs2 => rw [e2] at h; exact h
      | ex x fs2 => rw [e2] at h; exact h
      | bad => rw [e2] at h; exact h
/-- what is walked: the items; an own object that must stay -/
abbrev FI := FS → Rs (List D × Option (Nat × M))
def PostI (B : Om) (δ : DSt) (r : Rs (List D × Option (Nat × M))) (Z : Xk) (Ψ : List D → (Eta → Prop) → Eta → Prop) : Prop := match r with
  | .ok (ds, none) fs' => nrs ds = true → ∀ η', St B fs' δ η' → Ψ ds (fun _ => True) η'
  | .ok (ds, some (k, o)) fs' => nrs ds = true → ∀ η' p, St B fs' δ η' → δ[k]? = some (some (.ref p)) → η' p = some o → slotM fs' k = some o → Ψ ds (fun η => η p = some o) η'
  | .ex x fs' => ∀ η', St B fs' δ η' → nr x = true → Z x η'
  | .bad => False
def ImpI (di : DI) (fi : FI) : Prop := ∀ (B : Om) (fs : FS) (δ : DSt) (η : Eta) (Z : Xk) (Ψ : List D → (Eta → Prop) → Eta → Prop), St B fs δ η → PostI B δ (fi fs) Z Ψ → di Z δ η Ψ
def unlk (k : Nat) (pr : Bool) (s : FS) : Option FS := match s[k]? with
  | some (some (.l o)) => some (s.set k (some (.m pr o)))
  | _ => none
def unlkO (k : Nat) (pr : Bool) : O → O
  | .nx s => match unlk k pr s with | some s' => .nx s' | none => .bad
  | .bk s => match unlk k pr s with | some s' => .bk s' | none => .bad
  | .ct s => match unlk k pr s with | some s' => .ct s' | none => .bad
  | .rt v s => match unlk k pr s with | some s' => (if v.isS then .bad else .rt v s') | none => .bad
  | .ex x s => match unlk k pr s with | some s' => .ex x s' | none => .bad
  | .bad => .bad
def sFor (fi : FI) (g : FG) (body : FSt) : FSt := fun fs => (fi fs).thn fun r fs1 => match r.2 with
  | none => fForL g body r.1 fs1
  | some (k, o) => match fs1[k]? with
    | some (some (.l _)) => fForL g body r.1 fs1
    | some (some (.m pr _)) => unlkO k pr (fForL g body r.1 (fs1.set k (some (.l o))))
    | _ => .bad
section
variable {B : Om} {fs fs' : FS} {δ δ' : DSt} {η η' : Eta} {k : Nat} {pr : Bool} {o : M} {p : Addr}
def lockB (B : Om) (k : Nat) (p : Addr) (o : M) : Om := ⟨eup B.b p o, B.ps, fun i => if i = k then some p else B.lk i⟩
theorem St.lock (s : St B fs δ η) (e : fs[k]? = some (some (.m pr o))) (q : δ[k]? = some (some (.ref p))) : St (lockB B k p o) (fs.set k (some (.l o))) δ η := by
  obtain ⟨p', q1, q2, q3, q4, q5, q6⟩ := s.m k pr o e
  rw [q] at q1; cases q1
  have lt : k < fs.length := (List.getElem?_eq_some_iff.mp e).1
  refine ⟨by rw [List.length_set]; exact s.len, fun j y e => ?_, fun j pr2 o2 e2 => ?_, fun j o2 e2 => ?_, fun j a e2 => ?_, fun j m pr1 pr2 o1 o2 a e1 e2 h1 h2 => ?_, fun a o2 e2 => ?_, s.pn⟩
  · rcases get_set e with ⟨-, e, -⟩ | ⟨ne, e⟩
    · cases e
    · exact s.d j y e
  · rcases get_set e2 with ⟨-, e2, -⟩ | ⟨ne, e2⟩
    · cases e2
    · obtain ⟨a, a1, a2, a3, a4⟩ := s.m j pr2 o2 e2
      have na : a ≠ p := by rintro rfl; exact ne (s.inj k j _ _ _ _ _ e e2 q a1)
      exact ⟨a, a1, a2, by show eup B.b p o a = none; rw [eup_ne na]; exact a3, a4⟩
  · rcases get_set e2 with ⟨rfl, e2, -⟩ | ⟨ne, e2⟩
    · cases e2; exact ⟨p, q, by show eup B.b p o p = some o; exact eup_same, q4, by show (if k = k then some p else B.lk k) = some p; rw [if_pos rfl]⟩
    · obtain ⟨a, a1, a2, a3, a4⟩ := s.l j o2 e2
      have na : a ≠ p := by rintro rfl; rw [q3] at a2; cases a2
      exact ⟨a, a1, by show eup B.b p o a = some o2; rw [eup_ne na]; exact a2, a3, by show (if j = k then some p else B.lk j) = some a; rw [if_neg (Ne.symm ne)]; exact a4⟩
  · have e2 : (if j = k then some p else B.lk j) = some a := e2
    by_cases jk : j = k
    · subst jk
      rw [if_pos rfl] at e2; cases e2
      exact ⟨⟨o, by rw [List.getElem?_set_self lt]⟩, by show eup B.b p o p ≠ none; rw [eup_same]; simp⟩
    · rw [if_neg jk] at e2
      obtain ⟨⟨o3, a1⟩, a2⟩ := s.lk j a e2
      have na : a ≠ p := by rintro rfl; exact a2 q3
      exact ⟨⟨o3, by rw [List.getElem?_set_ne (Ne.symm jk)]; exact a1⟩, by show eup B.b p o a ≠ none; rw [eup_ne na]; exact a2⟩
  · rcases get_set e1 with ⟨-, e1, -⟩ | ⟨-, e1⟩
    · cases e1
    · rcases get_set e2 with ⟨-, e2, -⟩ | ⟨-, e2⟩
      · cases e2
      · exact s.inj j m _ _ _ _ a e1 e2 h1 h2
  · have e2 : eup B.b p o a = some o2 := e2
    by_cases na : a = p
    · subst na; rw [eup_same] at e2; cases e2; exact q2
    · rw [eup_ne na] at e2; exact s.fr a o2 e2
theorem St.unlock {fs0 : FS} {δ0 : DSt} {η0 : Eta} (s : St B fs0 δ0 η0) (e : fs0[k]? = some (some (.m pr o))) (q : δ0[k]? = some (some (.ref p))) (s' : St (lockB B k p o) fs δ η) (h : unlk k pr fs = some fs') : St B fs' δ η := by
  obtain ⟨p', q1, q2, q3, q4, q5, q6⟩ := s.m k pr o e
  rw [q] at q1; cases q1
  unfold unlk at h
  split at h
  · rename_i o' e'
    cases h
    have lt : k < fs.length := (List.getElem?_eq_some_iff.mp e').1
    obtain ⟨a, a1, a2, a3, a4⟩ := s'.l k o' e'
    have a4 : (if k = k then some p else B.lk k) = some a := a4
    rw [if_pos rfl] at a4; cases a4
    have a2' : eup B.b p o p = some o' := a2
    rw [eup_same] at a2'; cases a2'
    have hk := s'.fr p o a2
    have low : ∀ {b : Addr}, (lockB B k p o).b b = none → b ≠ p ∧ B.b b = none := fun {b} z => by
      have z : eup B.b p o b = none := z
      by_cases e : b = p
      · subst e; rw [eup_same] at z; cases z
      · rw [eup_ne e] at z; exact ⟨e, z⟩
    refine ⟨by rw [List.length_set]; exact s'.len, fun j y e => ?_, fun j pr2 o2 e2 => ?_, fun j o2 e2 => ?_, fun j b e2 => ?_, fun j m pr1 pr2 o1 o2 b e1 e2 h1 h2 => ?_, fun b o2 e2 => ?_, s'.pn⟩
    · rcases get_set e with ⟨-, e, -⟩ | ⟨ne, e⟩
      · cases e
      · exact s'.d j y e
    · rcases get_set e2 with ⟨rfl, e2, -⟩ | ⟨ne, e2⟩
      · cases e2; exact ⟨p, a1, hk, q3, q4, q5, q6⟩
      · obtain ⟨b, b1, b2, b3, b4, b5⟩ := s'.m j pr2 o2 e2
        exact ⟨b, b1, b2, (low b3).2, b4, b5⟩
    · rcases get_set e2 with ⟨-, e2, -⟩ | ⟨ne, e2⟩
      · cases e2
      · obtain ⟨b, b1, b2, b3, b4⟩ := s'.l j o2 e2
        have b4 : (if j = k then some p else B.lk j) = some b := b4
        rw [if_neg (Ne.symm ne)] at b4
        have b2 : eup B.b p o b = some o2 := b2
        have nb : b ≠ p := by
          intro eb
          exact (s.lk j b b4).2 (by rw [eb]; exact q3)
        rw [eup_ne nb] at b2
        exact ⟨b, b1, b2, b3, b4⟩
    · have jk : j ≠ k := by
        rintro rfl
        obtain ⟨⟨o3, z⟩, -⟩ := s.lk j b e2
        rw [e] at z; cases z
      obtain ⟨⟨o3, c1⟩, c2⟩ := s'.lk j b (show (if j = k then some p else B.lk j) = some b by rw [if_neg jk]; exact e2)
      exact ⟨⟨o3, by rw [List.getElem?_set_ne (Ne.symm jk)]; exact c1⟩, (s.lk j b e2).2⟩
    · rcases get_set e1 with ⟨rfl, e1, -⟩ | ⟨ne1, e1⟩
      · rcases get_set e2 with ⟨rfl, e2, -⟩ | ⟨ne2, e2⟩
        · rfl
        · rw [a1] at h1; cases h1
          obtain ⟨b, b1, b2, b3, b4⟩ := s'.m m _ _ e2
          rw [h2] at b1; cases b1
          exact absurd rfl (low b3).1
      · rcases get_set e2 with ⟨rfl, e2, -⟩ | ⟨ne2, e2⟩
        · rw [a1] at h2; cases h2
          obtain ⟨b, b1, b2, b3, b4⟩ := s'.m j _ _ e1
          rw [h1] at b1; cases b1
          exact absurd rfl (low b3).1
        · exact s'.inj j m _ _ _ _ b e1 e2 h1 h2
    · have nb : b ≠ p := by rintro rfl; rw [q3] at e2; cases e2
      exact s'.fr b o2 (show eup B.b p o b = some o2 by rw [eup_ne nb]; exact e2)
  · cases h
end
theorem imps_for {vs : List Nat} {di : DI} {fi : FI} {dg : DG} {g : FG} {db : DS} {body : FSt} (hi : ImpI di fi) (hg : ImpT vs dg g) (hb : ImpS db body) : ImpS (dFor di dg db) (sFor fi g body) := fun B fs δ η Z P s h => by
  have h : PostS B ((fi fs).thn fun r fs1 => match r.2 with
    | none => fForL g body r.1 fs1
    | some (k, o) => match fs1[k]? with
      | some (some (.l _)) => fForL g body r.1 fs1
      | some (some (.m pr _)) => unlkO k pr (fForL g body r.1 (fs1.set k (some (.l o))))
      | _ => .bad) Z P := h
  refine hi B fs δ η Z _ s ?_
  cases e : fi fs with
  | bad => rw [e] at h; exact h
  | ex x fs1 => rw [e] at h; exact fun η' s' n => h δ η' s' n
  | ok r fs1 =>
    rw [e] at h
    obtain ⟨ds, gd⟩ := r
    cases gd with
    | none => exact fun n η1 s1 => imp_forL hg hb (fun _ _ _ _ => True.intro) ds fs1 δ η1 n s1 h
    | some ko =>
      obtain ⟨k, o⟩ := ko
      intro n η1 p s1 q1 q2 q3
      have h : PostS B (match fs1[k]? with
        | some (some (.l _)) => fForL g body ds fs1
        | some (some (.m pr _)) => unlkO k pr (fForL g body ds (fs1.set k (some (.l o))))
        | _ => .bad) Z P := h
      rcases slotM_some q3 with ⟨pr, e2⟩ | e2
      · rw [e2] at h
        have sl := s1.lock e2 q1
        refine imp_forL hg hb (B := lockB B k p o) (fun fs2 δ2 η2 s2 => s2.fr p o (show eup B.b p o p = some o from eup_same)) ds _ δ η1 n sl ?_
        have h : PostS B (unlkO k pr (fForL g body ds (fs1.set k (some (.l o))))) Z P := h
        cases e3 : fForL g body ds (fs1.set k (some (.l o))) with
        | nx fs2 =>
          rw [e3] at h
          intro δ2 η2 s2
          cases e4 : unlk k pr fs2 with
          | none => simp [unlkO, e4, PostS] at h
          | some fs3 => simp [unlkO, e4, PostS] at h; exact h δ2 η2 (s1.unlock e2 q1 s2 e4)
        | bk fs2 =>
          rw [e3] at h
          intro δ2 η2 s2
          cases e4 : unlk k pr fs2 with
          | none => simp [unlkO, e4, PostS] at h
          | some fs3 => simp [unlkO, e4, PostS] at h; exact h δ2 η2 (s1.unlock e2 q1 s2 e4)
        | ct fs2 =>
          rw [e3] at h
          intro δ2 η2 s2
          cases e4 : unlk k pr fs2 with
          | none => simp [unlkO, e4, PostS] at h
          | some fs3 => simp [unlkO, e4, PostS] at h; exact h δ2 η2 (s1.unlock e2 q1 s2 e4)
        | ex x fs2 =>
          rw [e3] at h
          intro δ2 η2 s2 nx
          cases e4 : unlk k pr fs2 with
          | none => simp [unlkO, e4, PostS] at h
          | some fs3 => simp [unlkO, e4, PostS] at h; exact h δ2 η2 (s1.unlock e2 q1 s2 e4) nx
        | rt v fs2 =>
          rw [e3] at h
          intro d2 δ2 η2 s2 r2
          cases e4 : unlk k pr fs2 with
          | none => simp [unlkO, e4, PostS] at h
          | some fs3 =>
            cases v with
            | s j => simp [unlkO, e4, FV.isS, PostS] at h
            | d x => simp [unlkO, e4, FV.isS, PostS] at h; exact h d2 δ2 η2 (s1.unlock e2 q1 s2 e4) r2
            | f o2 =>
              simp [unlkO, e4, FV.isS, PostS] at h
              refine h d2 δ2 η2 (s1.unlock e2 q1 s2 e4) ?_
              obtain ⟨p2, rfl, z1, z2, z3⟩ := r2
              have np : p2 ≠ p := by rintro rfl; have := z3.b; simp only [lockB, eup_same] at this; cases this
              refine ⟨p2, rfl, z1, z2, ?_, fun i pr' o' ei qi => ?_, z3.ps, fun j ej => ?_⟩
              · have := z3.b; simp only [lockB] at this; rw [eup_ne np] at this; exact this
              · unfold unlk at e4
                split at e4
                · rename_i o4 e5
                  cases e4
                  rcases get_set ei with ⟨rfl, -, -⟩ | ⟨ne, ei⟩
                  · obtain ⟨a, a1, a2, a3, a4⟩ := s2.l k o4 e5
                    have a4 : (if k = k then some p else B.lk k) = some a := a4
                    rw [if_pos rfl] at a4; cases a4
                    rw [qi] at a1; cases a1; exact np rfl
                  · exact z3.sl i pr' o' ei qi
                · cases e4
              · obtain ⟨⟨o5, z⟩, -⟩ := s1.lk j p2 ej
                have jk : j ≠ k := by rintro rfl; rw [e2] at z; cases z
                exact z3.lk j (show (if j = k then some p else B.lk j) = some p2 by rw [if_neg jk]; exact ej)
        | bad => rw [e3] at h; exact h
      · rw [e2] at h
        have h : PostS B (fForL g body ds fs1) Z P := h
        obtain ⟨a, a1, a2, a3, a4⟩ := s1.l k o e2
        rw [q1] at a1; cases a1
        exact imp_forL hg hb (fun fs2 δ2 η2 s2 => s2.fr p o a2) ds fs1 δ η1 n s1 h
end DL
end
section
set_option Elab.async false
set_option linter.all false
set_option autoImplicit false
set_option maxRecDepth 100000
set_option maxHeartbeats 4000000
namespace DL
open PySem PySem.Spec PyProof.Rows L2
/-- over a list, a tuple, a text, an own list -/
def iAny (K : PySem.W.Frag) (tl : TE) : TI := fun σ H R => tl σ H fun x H1 => (∃ a, x = .ref a ∧ (∃ xs, SqL K H1 a xs) ∧ R (Itl K a) H1) ∨ (∃ a, x = .ref a ∧ (∃ xs, SqT K H1 a xs) ∧ R (Itt K a) H1) ∨ ∃ z, x = .str z ∧ R (Its z) H1
theorem pi_any {X : Cx} {tg l : Expr} {tl : TE} (hl : PE X l tl) : PI X tg l (iAny X.K tl) := ⟨fun pins s σ H R I h => by
  refine thn (hl.run pins s σ H _ I h) fun v s1 w => ?_
  obtain ⟨x, H1, I1, r1, q1⟩ := w
  have end_ : ∀ {b}, b ∈ [s1.heap.objs.size] → b = s1.heap.objs.size := fun {b} hb => by simpa using hb
  rcases q1 with ⟨a, rfl, ⟨xs, hq⟩, q⟩ | ⟨a, rfl, ⟨xs, hq⟩, q⟩ | ⟨z, rfl, q⟩
  · cases r1; obtain ⟨its, rv, p, hz⟩ := I1.list hq
    refine wpAny_pyIter_list p.isList ⟨s1.heap.objs.size, [s1.heap.objs.size], _, _, H1, rfl, I1.kept (t' := s1.toks) (fun b o e => Heap.get?_push_of_some _ e), turn_list a _, ⟨_, Heap.get?_push_size _ rfl, rfl, rfl⟩, fun b hb => ?_, q⟩
    cases end_ hb; exact I1.fpOk (Nat.le_refl _) (I1.hok.fresh (Nat.le_refl _))
  · cases r1; obtain ⟨its, rv, p, hz⟩ := I1.tuple hq
    refine wpAny_pyIter_tuple (show s1.heap.IsTuple a its.toArray from p) ⟨s1.heap.objs.size, [s1.heap.objs.size], _, _, H1, rfl, I1.kept (t' := s1.toks) (fun b o e => Heap.get?_push_of_some _ e), turn_tuple a _, ⟨_, Heap.get?_push_size _ rfl, rfl, rfl⟩, fun b hb => ?_, q⟩
    cases end_ hb; exact I1.fpOk (Nat.le_refl _) (I1.hok.fresh (Nat.le_refl _))
  · obtain ⟨t, rfl⟩ := r1
    cases ha : z.cps.all (· < 128)
    · exact wpAny_pyIter_wide ha (pi_one (tk := s1.toks) I1 _ (turn_str _ z t "str_iterator" (.inr rfl)) ⟨_, Heap.get?_push_size _ rfl, rfl, rfl⟩ q)
    · exact wpAny_pyIter_ascii ha (pi_one (tk := s1.toks) I1 _ (turn_str _ z t "str_ascii_iterator" (.inl rfl)) ⟨_, Heap.get?_push_size _ rfl, rfl, rfl⟩ q)⟩
def signs (x : Str) : List D := x.cps.toList.map fun c => D.str ⟨#[c]⟩
def dIA (de : DE) : DI := fun Z δ η Ψ => de Z δ η fun d η1 => match d with
  | .lst ds => Ψ ds (fun _ => True) η1
  | .tup ds => Ψ ds (fun _ => True) η1
  | .str x => Ψ (signs x) (fun _ => True) η1
  | .ref p => ∃ ds, η1 p = some (.lst ds) ∧ Ψ ds (fun η => η p = some (.lst ds)) η1
  | _ => False
theorem it_lst {K : PySem.W.Frag} {R : Addr → Prop} {η : Eta} {H : Hp} {a : Addr} {ds : List D} (r : Rep K R η H (.ref a) (.lst ds)) : ItOk K R η H (Itl K a) ds (fun _ => True) := fun η' H' l' x' _ => by
  obtain ⟨a', xs', e', hq', rs'⟩ := (r.up x').sqL
  cases e'
  refine ⟨⟨xs', hq', by rw [rs'.length]; exact Nat.le_refl _⟩, fun i d hd => ?_⟩
  obtain ⟨w, hw, rw_⟩ := rs'.get hd
  refine ⟨⟨xs', w, hq', hw⟩, fun y H2 yl => ?_⟩
  obtain ⟨rfl, yl⟩ := yl
  have := yl xs' hq'
  rw [hw] at this; cases this
  exact ⟨l', fun _ _ h => h, rw_⟩
theorem it_tup {K : PySem.W.Frag} {R : Addr → Prop} {η : Eta} {H : Hp} {a : Addr} {ds : List D} (r : Rep K R η H (.ref a) (.tup ds)) : ItOk K R η H (Itt K a) ds (fun _ => True) := fun η' H' l' x' _ => by
  obtain ⟨a', xs', e', hq', rs'⟩ := (r.up x').sqT
  cases e'
  refine ⟨⟨xs', hq', by rw [rs'.length]; exact Nat.le_refl _⟩, fun i d hd => ?_⟩
  obtain ⟨w, hw, rw_⟩ := rs'.get hd
  refine ⟨⟨xs', w, hq', hw⟩, fun y H2 yl => ?_⟩
  obtain ⟨rfl, yl⟩ := yl
  have := yl xs' hq'
  rw [hw] at this; cases this
  exact ⟨l', fun _ _ h => h, rw_⟩
theorem it_own {K : PySem.W.Frag} {R : Addr → Prop} {η : Eta} {H : Hp} {p : Addr} {ds : List D} : ItOk K R η H (Itl K p) ds (fun η => η p = some (.lst ds)) := fun η' H' l' x' hg => by
  obtain ⟨xs', hx', rs'⟩ := l'.m p _ hg
  refine ⟨⟨xs', SqL.of hx', by rw [rs'.length]; exact Nat.le_refl _⟩, fun i d hd => ?_⟩
  obtain ⟨w, hw, rw_⟩ := rs'.get hd
  refine ⟨⟨xs', w, SqL.of hx', hw⟩, fun y H2 yl => ?_⟩
  obtain ⟨rfl, yl⟩ := yl
  have := yl xs' (SqL.of hx')
  rw [hw] at this; cases this
  exact ⟨l', fun _ _ h => h, rw_⟩
theorem it_str {K : PySem.W.Frag} {R : Addr → Prop} {η : Eta} {H : Hp} {x : Str} (o : SOk x) : ItOk K R η H (Its x) (signs x) (fun _ => True) := fun η' H' l' x' _ => by
  refine ⟨by show x.cps.size ≤ (x.cps.toList.map fun c => D.str ⟨#[c]⟩).length; simp, fun i d hd => ?_⟩
  unfold signs at hd
  rw [List.getElem?_map] at hd
  cases e : x.cps.toList[i]? with
  | none => rw [e] at hd; cases hd
  | some c =>
    rw [e] at hd
    have hi : i < x.cps.size := by have := (List.getElem?_eq_some_iff.mp e).1; simpa using this
    refine ⟨hi, fun y H2 yl => ?_⟩
    obtain ⟨rfl, c', hc, rfl⟩ := yl
    have ec : x.cps[i]? = some c := by rw [← Array.getElem?_toList]; exact e
    rw [ec] at hc
    cases hc
    cases hd
    exact ⟨l', fun _ _ h => h, .str (sok_one o (List.mem_of_getElem? e))⟩
theorem pdi_any {X : Cx} {E : XK} {tg e : Expr} {te : TE} {de : DE} (h : PD X E e te de) : PDI X E tg e (iAny X.K te) (dIA de) := ⟨pi_any h.pe, fun R σ H δ η Z Ψ Q l s hw k kx => by
  refine h.so R σ H δ η Z _ _ l s hw ⟨fun v d H1 η1 l1 x1 r1 h1 => ?_, kx⟩
  cases d with
  | lst ds =>
    obtain ⟨a, xs, rfl, hq, rs⟩ := r1.sqL
    exact .inl ⟨a, rfl, ⟨xs, hq⟩, k _ ds _ H1 η1 l1 x1 (fun R' m1 m2 => it_lst (Rep.more m2 _ _ r1)) h1⟩
  | tup ds =>
    obtain ⟨a, xs, rfl, hq, rs⟩ := r1.sqT
    exact .inr (.inl ⟨a, rfl, ⟨xs, hq⟩, k _ ds _ H1 η1 l1 x1 (fun R' m1 m2 => it_tup (Rep.more m2 _ _ r1)) h1⟩)
  | str x =>
    cases r1 with
    | str o => exact .inr (.inr ⟨x, rfl, k _ _ _ H1 η1 l1 x1 (fun R' m1 m2 => it_str o) h1⟩)
  | ref p =>
    obtain ⟨ds, hp, h1⟩ := h1
    cases r1
    obtain ⟨xs, h2, h3⟩ := l1.m p _ hp
    exact .inl ⟨p, rfl, ⟨xs, SqL.of h2⟩, k _ ds _ H1 η1 l1 x1 (fun R' m1 m2 => it_own) h1⟩
  | _ => exact h1.elim⟩
theorem kdi_any {X : Cx} {K : PySem.W.Frag} (hK : X.K = K) {E : XK} {tg e : Expr} {te : TE} {de : DE} (h : PD X E e te de) : PDI X E tg e (iAny K te) (dIA de) := by subst hK; exact pdi_any h
def fIA (fe : FE) : FI := fun fs => (fe fs).bind fun v fs1 => match v with
  | .d (.lst xs) => .ok (xs, none) fs1
  | .d (.tup xs) => .ok (xs, none) fs1
  | .d (.str x) => .ok (signs x, none) fs1
  | .s k => match slotM fs1 k with
    | some (.lst xs) => .ok (xs, some (k, .lst xs)) fs1
    | _ => .bad
  | _ => .bad
theorem PostI.bind {γ ε : Type} {B : Om} {δ : DSt} {Z : Xk} {Ψ : List D → (Eta → Prop) → Eta → Prop} {Ψ' : ε → Eta → Prop} {Rl : Om → FS → DSt → Eta → γ → ε → Prop} {r : Rs γ} {g : γ → FS → Rs (List D × Option (Nat × M))} (h : PostI B δ (r.bind g) Z Ψ) (k : ∀ v fs1 d η1, St B fs1 δ η1 → Rl B fs1 δ η1 v d → PostI B δ (g v fs1) Z Ψ → Ψ' d η1) : Post B δ Rl r Z Ψ' := by
  cases r with
  | ok v fs1 => exact fun d η1 s rl => k v fs1 d η1 s rl h
  | ex x fs1 => exact h
  | bad => exact h
theorem nrs_signs (x : Str) : nrs (signs x) = true := nrs_of fun d hd => by
  obtain ⟨c, -, rfl⟩ := List.mem_map.mp hd; rfl
section
variable {de : DE} {fe : FE} {dr : DA} {fr : FA}
theorem impi_any (he : ImpG VR de fe) : ImpI (dIA de) (fIA fe) := fun B fs δ η Z Ψ s h => he B fs δ η Z _ s (PostI.bind h fun v fs1 d1 η1 s1 r1 h1 => by
  split at h1
  · obtain ⟨rfl, n⟩ := r1; exact h1 (by simpa [nr] using n) η1 s1
  · obtain ⟨rfl, n⟩ := r1; exact h1 (by simpa [nr] using n) η1 s1
  · obtain ⟨rfl, n⟩ := r1; exact h1 (nrs_signs _) η1 s1
  · rename_i k
    split at h1
    · rename_i xs e
      have r1' : δ[k]? = some (some d1) := r1
      obtain ⟨q1, q2⟩ := VR.rd (v := .s k) s1 r1 (show rsv fs1 (.s k) = some (.lst xs) by simp [rsv, e, mD])
      have hp : ∃ p, d1 = .ref p ∧ η1 p = some (.lst xs) := by
        rcases slotM_some e with ⟨pr, e2⟩ | e2
        · obtain ⟨p, p1, p2, _⟩ := s1.m k pr _ e2
          rw [r1'] at p1; cases p1; exact ⟨p, rfl, p2⟩
        · obtain ⟨p, p1, p2, _⟩ := s1.l k _ e2
          rw [r1'] at p1; cases p1; exact ⟨p, rfl, s1.fr p _ p2⟩
      obtain ⟨p, rfl, hp⟩ := hp
      exact ⟨xs, hp, h1 (by simpa [nr] using q2) η1 p s1 r1' hp e⟩
    · exact h1.elim
  · exact h1.elim)
def fIR1 (fr : FA) : FI := fun fs => (fr fs).bind fun vs fs1 => match vs with
  | [.d (.int j)] => if decide (-4611686018427387904 ≤ j) && decide (j < 4611686018427387904) then .ok (iota 0 j.toNat, none) fs1 else .bad
  | _ => .bad
def fIR2 (fr : FA) : FI := fun fs => (fr fs).bind fun vs fs1 => match vs with
  | [.d (.int i), .d (.int j)] => if decide (-4611686018427387904 ≤ i) && decide (i < 4611686018427387904) && decide (-4611686018427387904 ≤ j) && decide (j < 4611686018427387904) then .ok (iota i (j - i).toNat, none) fs1 else .bad
  | _ => .bad
theorem nrs_iota (lo : Int) (n : Nat) : nrs (iota lo n) = true := nrs_of fun d hd => by
  obtain ⟨c, -, rfl⟩ := List.mem_map.mp hd; rfl
theorem VRs.single {B : Om} {fs : FS} {δ : DSt} {η : Eta} {v : FV} {ds : List D} (r : VRs B fs δ η [v] ds) : ∃ d, ds = [d] ∧ VR B fs δ η v d := by
  match ds, r with
  | [d], r => exact ⟨d, rfl, r.1⟩
theorem VRs.two {B : Om} {fs : FS} {δ : DSt} {η : Eta} {x y : D} {ds : List D} (r : VRs B fs δ η [.d x, .d y] ds) : ds = [x, y] ∧ nr x = true ∧ nr y = true := by
  match ds, r with
  | [d, e], r =>
    obtain ⟨⟨h1, n1⟩, ⟨h2, n2⟩, -⟩ := r
    subst h1 h2
    exact ⟨rfl, n1, n2⟩
theorem impi_range1 (hr : ImpG VRs dr fr) : ImpI (dIR1 dr) (fIR1 fr) := fun B fs δ η Z Ψ s h => hr B fs δ η Z _ s (PostI.bind h fun v fs1 d1 η1 s1 r1 h1 => by
  split at h1
  · rename_i j
    obtain ⟨d, rfl, rfl, -⟩ := r1.single
    split at h1
    · rename_i c
      rw [Bool.and_eq_true, decide_eq_true_eq, decide_eq_true_eq] at c
      exact ⟨j, rfl, c.1, c.2, h1 (nrs_iota _ _) η1 s1⟩
    · exact h1.elim
  · exact h1.elim)
def fIZ (fr : FA) : FI := fun fs => (fr fs).bind fun vs fs1 => match vs with
  | [.d (.lst xs), .d (.lst ys)] => .ok (pairs xs ys, none) fs1
  | [.d (.tup xs), .d (.tup ys)] => .ok (pairs xs ys, none) fs1
  | [.s k, .d (.lst ys)] => match slotM fs1 k with
    | some (.lst xs) => .ok (pairs xs ys, some (k, .lst xs)) fs1
    | _ => .bad
  | _ => .bad
theorem nrs_pairs : ∀ {xs ys : List D}, nrs xs = true → nrs ys = true → nrs (pairs xs ys) = true
  | [], _, _, _ => by simp [pairs, nrs]
  | _ :: _, [], _, _ => by simp [pairs, nrs]
  | x :: xs, y :: ys, h1, h2 => by
    rw [nrs, Bool.and_eq_true] at h1 h2
    exact nrs_cons (by simp [nr, nrs, h1.1, h2.1]) (nrs_pairs h1.2 h2.2)
theorem impi_zip (hr : ImpG VRs dr fr) : ImpI (dIZ dr) (fIZ fr) := fun B fs δ η Z Ψ s h => hr B fs δ η Z _ s (PostI.bind h fun v fs1 d1 η1 s1 r1 h1 => by
  split at h1
  · obtain ⟨rfl, n1, n2⟩ := r1.two
    exact h1 (nrs_pairs (by simpa [nr] using n1) (by simpa [nr] using n2)) η1 s1
  · obtain ⟨rfl, n1, n2⟩ := r1.two
    exact h1 (nrs_pairs (by simpa [nr] using n1) (by simpa [nr] using n2)) η1 s1
  · rename_i k ys
    split at h1
    · rename_i xs e
      match d1, r1 with
      | [da, db], r1 =>
        obtain ⟨r1, ⟨hb, n2⟩, -⟩ := r1
        subst hb
        have r1' : δ[k]? = some (some da) := r1
        obtain ⟨q1, q2⟩ := VR.rd (v := .s k) s1 r1 (show rsv fs1 (.s k) = some (.lst xs) by simp [rsv, e, mD])
        have hp : ∃ p, da = .ref p ∧ η1 p = some (.lst xs) := by
          rcases slotM_some e with ⟨pr, e2⟩ | e2
          · obtain ⟨p, p1, p2, _⟩ := s1.m k pr _ e2
            rw [r1'] at p1; cases p1; exact ⟨p, rfl, p2⟩
          · obtain ⟨p, p1, p2, _⟩ := s1.l k _ e2
            rw [r1'] at p1; cases p1; exact ⟨p, rfl, s1.fr p _ p2⟩
        obtain ⟨p, rfl, hp⟩ := hp
        exact ⟨xs, hp, h1 (nrs_pairs (by simpa [nr] using q2) (by simpa [nr] using n2)) η1 p s1 r1' hp e⟩
    · exact h1.elim
  · exact h1.elim)
def fIE (fr : FA) : FI := fun fs => (fr fs).bind fun vs fs1 => match vs with
  | [.d (.lst xs)] => .ok (enumD 0 xs, none) fs1
  | _ => .bad
end
def wipeF (fs : FS) : List Nat → FS
  | [] => fs
  | v :: vs => (wipeF fs vs).set v none
def keepD : Option (Option Sv) → Option Sv
  | some (some (.d x)) => some (.d x)
  | _ => none
def restF (fs0 fs : FS) : List Nat → FS
  | [] => fs
  | v :: vs => (restF fs0 fs vs).set v (keepD fs0[v]?)
def Rs.noEx {α β : Type} (r : Rs α) (g : α → FS → Rs β) : Rs β := match r with
  | .ok a s => g a s
  | _ => .bad
def fLcL (g : FG) (ft : FT) (fe : FE) (vs : List Nat) : List D → List D → FS → Rs (List D)
  | [], acc => fun fs => .ok acc fs
  | x :: xs, acc => fun fs => match g (.d x) (wipeF fs vs) with
    | none => .bad
    | some fs1 => (ft fs1).noEx fun b fs2 => if b = true then (fe fs2).noEx fun v fs3 => match v with
        | .d y => if acc.length < most then fLcL g ft fe vs xs (acc ++ [y]) fs3 else .bad
        | _ => .bad
      else fLcL g ft fe vs xs acc fs2
def fLc (fi : FI) (g : FG) (ft : FT) (fe : FE) (vs : List Nat) : FE := fun fs => if vs.any (isL fs) then .bad else (fi fs).bind fun r fs1 => match r.2 with
  | none => (fLcL g ft fe vs r.1 [] fs1).noEx fun a fs2 => .ok (.d (.lst a)) (restF fs fs2 vs)
  | some (k, o) => if vs.contains k then .bad else match fs1[k]? with
    | some (some (.l _)) => (fLcL g ft fe vs r.1 [] fs1).noEx fun a fs2 => .ok (.d (.lst a)) (restF fs fs2 vs)
    | some (some (.m pr _)) => (fLcL g ft fe vs r.1 [] (fs1.set k (some (.l o)))).noEx fun a fs2 => match unlk k pr fs2 with
      | some fs3 => .ok (.d (.lst a)) (restF fs fs3 vs)
      | none => .bad
    | _ => .bad
section
variable {B : Om} {fs fs0 fs' : FS} {δ δ0 δ1 : DSt} {η η0 η1 : Eta} {vs : List Nat}
theorem wipeF_len : (wipeF fs vs).length = fs.length := by
  induction vs with
  | nil => rfl
  | cons v vs ih => unfold wipeF; rw [List.length_set, ih]
theorem wipeD_len : (wipeD δ vs).length = δ.length := by
  induction vs with
  | nil => rfl
  | cons v vs ih => unfold wipeD; rw [List.length_set, ih]
theorem restF_len : (restF fs0 fs vs).length = fs.length := by
  induction vs with
  | nil => rfl
  | cons v vs ih => unfold restF; rw [List.length_set, ih]
theorem wipeF_out {i : Nat} (h : i ∉ vs) : (wipeF fs vs)[i]? = fs[i]? := by
  induction vs with
  | nil => rfl
  | cons v vs ih =>
    unfold wipeF
    rw [List.getElem?_set_ne (by rintro rfl; exact h List.mem_cons_self)]
    exact ih fun z => h (List.mem_cons_of_mem _ z)
theorem wipeD_out {i : Nat} (h : i ∉ vs) : (wipeD δ vs)[i]? = δ[i]? := by
  induction vs with
  | nil => rfl
  | cons v vs ih =>
    unfold wipeD
    rw [List.getElem?_set_ne (by rintro rfl; exact h List.mem_cons_self)]
    exact ih fun z => h (List.mem_cons_of_mem _ z)
theorem restF_out {i : Nat} (h : i ∉ vs) : (restF fs0 fs vs)[i]? = fs[i]? := by
  induction vs with
  | nil => rfl
  | cons v vs ih =>
    unfold restF
    rw [List.getElem?_set_ne (by rintro rfl; exact h List.mem_cons_self)]
    exact ih fun z => h (List.mem_cons_of_mem _ z)
theorem wipeF_in {i : Nat} {sv : Sv} (h : i ∈ vs) : (wipeF fs vs)[i]? ≠ some (some sv) := by
  induction vs with
  | nil => cases h
  | cons v vs ih =>
    unfold wipeF
    intro e
    rcases get_set e with ⟨-, e, -⟩ | ⟨ne, e⟩
    · cases e
    · rcases List.mem_cons.mp h with rfl | h
      · exact ne rfl
      · exact ih h e
theorem restF_in {i : Nat} {sv : Sv} (h : i ∈ vs) (e : (restF fs0 fs vs)[i]? = some (some sv)) : ∃ x, sv = .d x ∧ fs0[i]? = some (some (.d x)) := by
  induction vs with
  | nil => cases h
  | cons v vs ih =>
    unfold restF at e
    rcases get_set e with ⟨rfl, e, -⟩ | ⟨ne, e⟩
    · unfold keepD at e
      split at e
      · rename_i x q; cases e; exact ⟨x, rfl, q⟩
      · cases e
    · rcases List.mem_cons.mp h with rfl | h
      · exact absurd rfl ne
      · exact ih h e
theorem St.wipe_ (s : St B fs δ1 η) (ag : ∀ i, i ∉ vs → δ1[i]? = δ[i]?) (hl : δ1.length = δ.length) (nl : ∀ i ∈ vs, B.lk i = none) : St B (wipeF fs vs) (wipeD δ vs) η := by
  have out : ∀ {i : Nat} {sv : Sv}, (wipeF fs vs)[i]? = some (some sv) → i ∉ vs ∧ fs[i]? = some (some sv) := fun {i sv} e => by
    by_cases h : i ∈ vs
    · exact absurd e (wipeF_in h)
    · exact ⟨h, by rw [wipeF_out h] at e; exact e⟩
  refine ⟨by rw [wipeF_len, wipeD_len, s.len, hl], fun i x e => ?_, fun i pr o e => ?_, fun i o e => ?_, fun i p e => ?_, fun i j pr pr' o o' p e1 e2 h1 h2 => ?_, s.fr, s.pn⟩
  · obtain ⟨h, e⟩ := out e; rw [wipeD_out h, ← ag i h]; exact s.d i x e
  · obtain ⟨h, e⟩ := out e; rw [wipeD_out h, ← ag i h]; exact s.m i pr o e
  · obtain ⟨h, e⟩ := out e; rw [wipeD_out h, ← ag i h]; exact s.l i o e
  · have h : i ∉ vs := fun z => by rw [nl i z] at e; cases e
    obtain ⟨⟨o, q1⟩, q2⟩ := s.lk i p e
    exact ⟨⟨o, by rw [wipeF_out h]; exact q1⟩, q2⟩
  · obtain ⟨n1, e1⟩ := out e1
    obtain ⟨n2, e2⟩ := out e2
    rw [wipeD_out n1, ← ag i n1] at h1
    rw [wipeD_out n2, ← ag j n2] at h2
    exact s.inj i j pr pr' o o' p e1 e2 h1 h2
theorem St.rest_ (s0 : St B fs0 δ η0) (s : St B fs δ1 η) (ag : ∀ i, i ∉ vs → δ1[i]? = δ[i]?) (hl : δ1.length = δ.length) (nl : ∀ i ∈ vs, B.lk i = none) : St B (restF fs0 fs vs) δ η := by
  have out : ∀ {i : Nat} {sv : Sv}, (restF fs0 fs vs)[i]? = some (some sv) → (i ∉ vs ∧ fs[i]? = some (some sv)) ∨ ∃ x, sv = .d x ∧ fs0[i]? = some (some (.d x)) := fun {i sv} e => by
    by_cases h : i ∈ vs
    · exact .inr (restF_in h e)
    · exact .inl ⟨h, by rw [restF_out h] at e; exact e⟩
  refine ⟨by rw [restF_len, s.len, hl], fun i x e => ?_, fun i pr o e => ?_, fun i o e => ?_, fun i p e => ?_, fun i j pr pr' o o' p e1 e2 h1 h2 => ?_, s.fr, s.pn⟩
  · rcases out e with ⟨h, e⟩ | ⟨y, e1, e2⟩
    · rw [← ag i h]; exact s.d i x e
    · cases e1; exact s0.d i _ e2
  · rcases out e with ⟨h, e⟩ | ⟨y, e1, e2⟩
    · rw [← ag i h]; exact s.m i pr o e
    · cases e1
  · rcases out e with ⟨h, e⟩ | ⟨y, e1, e2⟩
    · rw [← ag i h]; exact s.l i o e
    · cases e1
  · have h : i ∉ vs := fun z => by rw [nl i z] at e; cases e
    obtain ⟨⟨o, q1⟩, q2⟩ := s.lk i p e
    exact ⟨⟨o, by rw [restF_out h]; exact q1⟩, q2⟩
  · rcases out e1 with ⟨n1, e1⟩ | ⟨y, e1, -⟩
    · rcases out e2 with ⟨n2, e2⟩ | ⟨y, e2, -⟩
      · rw [← ag i n1] at h1
        rw [← ag j n2] at h2
        exact s.inj i j pr pr' o o' p e1 e2 h1 h2
      · cases e2
    · cases e1
def PostL (B : Om) (δ : DSt) (vs : List Nat) (r : Rs (List D)) (Φ : DK) : Prop := match r with
  | .ok a fs' => ∀ δ' η', St B fs' δ' η' → (∀ i, i ∉ vs → δ'[i]? = δ[i]?) → δ'.length = δ.length → nrs a = true → Φ (.lst a) η'
  | _ => False
theorem imp_lcL {ws : List Nat} {dg : DG} {g : FG} {dt : DT} {ft : FT} {de : DE} {fe : FE} (hg : ImpT ws dg g) (ht : ImpG VEq dt ft) (he : ImpG VR de fe) (hw : ∀ i ∈ ws, i ∈ vs) {G : Eta → Prop} (hG : ∀ fs δ η, St B fs δ η → G η) (nl : ∀ i ∈ vs, B.lk i = none) {Z : Xk} {Φ : DK} :
    ∀ (xs acc : List D) (fs : FS) (δ1 : DSt) (η : Eta), nrs xs = true → nrs acc = true → St B fs δ1 η → (∀ i, i ∉ vs → δ1[i]? = δ[i]?) → δ1.length = δ.length → PostL B δ vs (fLcL g ft fe vs xs acc fs) Φ → dLcL dg dt de (wipeD δ vs) Z G Φ xs acc η
  | [], acc, fs, δ1, η, n, na, s, ag, hl, h => ⟨hG fs δ1 η s, h δ1 η s ag hl na⟩
  | x :: xs, acc, fs, δ1, η, n, na, s, ag, hl, h => by
    have n1 : nr x = true := nrs_mem n List.mem_cons_self
    have n2 : nrs xs = true := nrs_of fun y hy => nrs_mem n (List.mem_cons_of_mem _ hy)
    have sw := s.wipe_ ag hl nl
    refine ⟨hG fs δ1 η s, hg B (wipeF fs vs) (wipeD δ vs) η (.d x) x _ sw ⟨rfl, n1⟩ ?_⟩
    have h : PostL B δ vs (match g (.d x) (wipeF fs vs) with
      | none => .bad
      | some fs1 => (ft fs1).noEx fun b fs2 => if b = true then (fe fs2).noEx fun v fs3 => match v with
          | .d y => if acc.length < most then fLcL g ft fe vs xs (acc ++ [y]) fs3 else .bad
          | _ => .bad
        else fLcL g ft fe vs xs acc fs2) Φ := h
    cases e : g (.d x) (wipeF fs vs) with
    | none => rw [e] at h; exact h
    | some fs1 =>
      rw [e] at h
      intro δ2 η2 s2 ag2
      have ag3 : ∀ i, i ∉ vs → δ2[i]? = δ[i]? := fun i hi => by rw [ag2.2 i (fun z => hi (hw i z)), wipeD_out hi]
      have hl3 : δ2.length = δ.length := by rw [ag2.1, wipeD_len]
      refine ht B fs1 δ2 η2 Z0 _ s2 ?_
      have h : PostL B δ vs ((ft fs1).noEx fun b fs2 => if b = true then (fe fs2).noEx fun v fs3 => match v with
          | .d y => if acc.length < most then fLcL g ft fe vs xs (acc ++ [y]) fs3 else .bad
          | _ => .bad
        else fLcL g ft fe vs xs acc fs2) Φ := h
      cases e2 : ft fs1 with
      | bad => rw [e2] at h; exact h.elim
      | ex _ _ => rw [e2] at h; exact h.elim
      | ok b fs2 =>
        rw [e2] at h
        intro b' η3 s3 eb
        obtain rfl : b = b' := eb
        cases b with
        | false => exact imp_lcL hg ht he hw hG nl xs acc fs2 δ2 η3 n2 na s3 ag3 hl3 h
        | true =>
          show de Z0 δ2 η3 _
          refine he B fs2 δ2 η3 Z0 _ s3 ?_
          have h : PostL B δ vs ((fe fs2).noEx fun v fs3 => match v with
            | .d y => if acc.length < most then fLcL g ft fe vs xs (acc ++ [y]) fs3 else .bad
            | _ => .bad) Φ := h
          cases e3 : fe fs2 with
          | bad => rw [e3] at h; exact h.elim
          | ex _ _ => rw [e3] at h; exact h.elim
          | ok v fs3 =>
            rw [e3] at h
            intro y η4 s4 r4
            cases v with
            | s _ => exact h.elim
            | f _ => exact h.elim
            | d y' =>
              obtain ⟨rfl, ny⟩ := r4
              have h : PostL B δ vs (if acc.length < most then fLcL g ft fe vs xs (acc ++ [y]) fs3 else .bad) Φ := h
              split at h
              · rename_i lt
                refine ⟨by rw [sizeLine_eq]; exact Nat.lt_of_lt_of_le lt (by decide), ?_⟩
                exact imp_lcL hg ht he hw hG nl xs (acc ++ [y]) fs3 δ2 η4 n2 (nrs_app na (nrs_cons ny rfl)) s4 ag3 hl3 h
              · exact h.elim
theorem lc_end {B : Om} {fs0 : FS} {δ : DSt} {η0 : Eta} {vs : List Nat} {Z : Xk} {Φ : DK} {r : Rs (List D)} (s0 : St B fs0 δ η0) (nl : ∀ i ∈ vs, B.lk i = none) (h : Post B δ VR (r.noEx fun a fs2 => .ok (.d (.lst a)) (restF fs0 fs2 vs)) Z Φ) : PostL B δ vs r Φ := by
  cases r with
  | bad => exact h
  | ex _ _ => exact h
  | ok a fs2 => exact fun δ' η' s' ag hl n => h _ η' (s0.rest_ s' ag hl nl) ⟨rfl, by simpa [nr] using n⟩
theorem imp_lc {ws : List Nat} {di : DI} {fi : FI} {dg : DG} {g : FG} {dt : DT} {ft : FT} {de : DE} {fe : FE} (hi : ImpI di fi) (hg : ImpT ws dg g) (ht : ImpG VEq dt ft) (he : ImpG VR de fe) (hw : ∀ i ∈ ws, i ∈ vs := by decide) : ImpG VR (dLc di dg dt de vs) (fLc fi g ft fe vs) := fun B fs δ η Z Φ s h => by
  unfold fLc at h
  split at h
  · exact h.elim
  · rename_i hl
    have hl : vs.any (isL fs) = false := by simpa using hl
    have nl : ∀ i ∈ vs, B.lk i = none := fun i hi => by
      cases e : B.lk i with
      | none => rfl
      | some p =>
        obtain ⟨⟨o, q⟩, -⟩ := s.lk i p e
        have : isL fs i = false := by
          cases e2 : isL fs i with
          | false => rfl
          | true => rw [List.any_eq_false] at hl; exact absurd e2 (hl i hi)
        exact absurd q (isL_no this o)
    refine hi B fs δ η Z _ s ?_
    cases e : fi fs with
    | bad => rw [e] at h; exact h
    | ex x fs1 => rw [e] at h; exact h
    | ok r fs1 =>
      rw [e] at h
      obtain ⟨ds, gd⟩ := r
      cases gd with
      | none => exact fun n η1 s1 => imp_lcL hg ht he hw (fun _ _ _ _ => True.intro) nl ds [] fs1 δ η1 n rfl s1 (fun _ _ => rfl) rfl (lc_end s nl h)
      | some ko =>
        obtain ⟨k, o⟩ := ko
        intro n η1 p s1 q1 q2 q3
        have h : Post B δ VR (if vs.contains k then .bad else match fs1[k]? with
          | some (some (.l _)) => (fLcL g ft fe vs ds [] fs1).noEx fun a fs2 => .ok (.d (.lst a)) (restF fs fs2 vs)
          | some (some (.m pr _)) => (fLcL g ft fe vs ds [] (fs1.set k (some (.l o)))).noEx fun a fs2 => match unlk k pr fs2 with
            | some fs3 => .ok (.d (.lst a)) (restF fs fs3 vs)
            | none => .bad
          | _ => .bad) Z Φ := h
        split at h
        · exact h.elim
        · rename_i hk
          have hk : k ∉ vs := fun z => hk (List.contains_iff_mem.mpr z)
          rcases slotM_some q3 with ⟨pr, e2⟩ | e2
          · rw [e2] at h
            have h : Post B δ VR ((fLcL g ft fe vs ds [] (fs1.set k (some (.l o)))).noEx fun a fs2 => match unlk k pr fs2 with
              | some fs3 => .ok (.d (.lst a)) (restF fs fs3 vs)
              | none => .bad) Z Φ := h
            have sl := s1.lock e2 q1
            refine imp_lcL hg ht he hw (B := lockB B k p o) (fun fs2 δ2 η2 s2 => s2.fr p o (show eup B.b p o p = some o from eup_same)) (fun i hi => ?_) ds [] _ δ η1 n rfl sl (fun _ _ => rfl) rfl ?_
            · show (if i = k then some p else B.lk i) = none
              rw [if_neg (by rintro rfl; exact hk hi)]; exact nl i hi
            · cases e3 : fLcL g ft fe vs ds [] (fs1.set k (some (.l o))) with
              | bad => rw [e3] at h; exact h
              | ex _ _ => rw [e3] at h; exact h
              | ok a fs2 =>
                rw [e3] at h
                intro δ' η' s' ag hl' na
                cases e4 : unlk k pr fs2 with
                | none =>
                  have h : Post B δ VR (match unlk k pr fs2 with
                    | some fs3 => .ok (.d (.lst a)) (restF fs fs3 vs)
                    | none => .bad) Z Φ := h
                  rw [e4] at h; exact h.elim
                | some fs3 =>
                  have h : Post B δ VR (match unlk k pr fs2 with
                    | some fs3 => .ok (.d (.lst a)) (restF fs fs3 vs)
                    | none => .bad) Z Φ := h
                  rw [e4] at h
                  exact h _ η' (s.rest_ (s1.unlock e2 q1 s' e4) ag hl' nl) ⟨rfl, by simpa [nr] using na⟩
          · rw [e2] at h
            obtain ⟨a, a1, a2, a3, a4⟩ := s1.l k o e2
            rw [q1] at a1; cases a1
            exact imp_lcL hg ht he hw (fun fs2 δ2 η2 s2 => s2.fr p o a2) nl ds [] fs1 δ η1 n rfl s1 (fun _ _ => rfl) rfl (lc_end s nl h)
end
end DL
end
section
set_option Elab.async false
set_option linter.all false
set_option autoImplicit false
set_option maxRecDepth 100000
set_option maxHeartbeats 4000000
namespace DL
open PySem PySem.Spec PyProof.Rows L2
/-- an argument: data, or an object that the callee may change -/
inductive Ar where
  | d (x : D)
  | m (o : M)
inductive Rm where
  | ok (v : FV) (as : List Ar)
  | ex (x : D) (as : List Ar)
  | bad
abbrev MF := List Ar → Rm
def AR (η : Eta) : List Ar → List D → Prop
  | [], [] => True
  | .d x :: as, d :: ds => (d = x ∧ nr x = true) ∧ AR η as ds
  | .m o :: as, d :: ds => (∃ p, d = .ref p ∧ η p = some o ∧ nrM o) ∧ AR η as ds
  | _, _ => False
def adrs : List D → List Addr
  | [] => []
  | .ref p :: ds => p :: adrs ds
  | _ :: ds => adrs ds
theorem adrs_mem {p : Addr} : ∀ {ds : List D}, p ∈ adrs ds ↔ D.ref p ∈ ds
  | [] => by simp [adrs]
  | d :: ds => by
    cases d with
    | ref q => simp [adrs, adrs_mem (ds := ds)]
    | _ => simp [adrs, adrs_mem (ds := ds)]
def RR (η η' : Eta) : FV → D → Prop
  | .d x, d => d = x ∧ nr x = true
  | .f o, d => ∃ p, d = .ref p ∧ η' p = some o ∧ η p = none ∧ nrM o
  | .s _, _ => False
/-- beside the arguments all is as it was -/
def Frm (η : Eta) (ds : List D) (η' : Eta) : Prop := ∀ a, η a ≠ none → a ∉ adrs ds → η' a = η a
def PostC (η : Eta) (ds : List D) (r : Rm) (Z : Xk) (Φ : DK) : Prop := match r with
  | .ok v as' => ∀ d η', AR η' as' ds → Frm η ds η' → RR η η' v d → Φ d η'
  | .ex x as' => ∀ η', AR η' as' ds → Frm η ds η' → nr x = true → Z x η'
  | .bad => False
/-- a def's contract by its function -/
def CtF (mf : MF) : Ct := fun ds η Z Φ => ∃ as, AR η as ds ∧ (adrs ds).Nodup ∧ PostC η ds (mf as) Z Φ
theorem AR.len {η : Eta} : ∀ {as : List Ar} {ds : List D}, AR η as ds → as.length = ds.length
  | [], [], _ => rfl
  | [], _ :: _, h => h.elim
  | .d _ :: _, [], h => h.elim
  | .m _ :: _, [], h => h.elim
  | .d _ :: as, _ :: ds, ⟨_, h⟩ => by simp [h.len]
  | .m _ :: as, _ :: ds, ⟨_, h⟩ => by simp [h.len]
theorem AR.get {η : Eta} : ∀ {as : List Ar} {ds : List D} {i : Nat} {a : Ar}, AR η as ds → as[i]? = some a → (∃ x, a = .d x ∧ ds[i]? = some x ∧ nr x = true) ∨ ∃ o p, a = .m o ∧ ds[i]? = some (.ref p) ∧ η p = some o ∧ nrM o
  | [], [], _, _, _, h => by simp at h
  | [], _ :: _, _, _, h, _ => h.elim
  | .d _ :: _, [], _, _, h, _ => h.elim
  | .m _ :: _, [], _, _, h, _ => h.elim
  | .d x :: as, _ :: ds, 0, _, ⟨⟨h1, h2⟩, _⟩, h => by cases h; exact .inl ⟨x, rfl, by rw [h1]; rfl, h2⟩
  | .m o :: as, _ :: ds, 0, _, ⟨⟨p, h1, h2, h3⟩, _⟩, h => by cases h; exact .inr ⟨o, p, rfl, by rw [h1]; rfl, h2, h3⟩
  | .d _ :: as, _ :: ds, i + 1, _, ⟨_, h⟩, e => h.get (i := i) (by simpa using e)
  | .m _ :: as, _ :: ds, i + 1, _, ⟨_, h⟩, e => h.get (i := i) (by simpa using e)
theorem AR.ref {η : Eta} {as : List Ar} {ds : List D} {i : Nat} {p : Addr} (h : AR η as ds) (e : ds[i]? = some (.ref p)) : ∃ o, as[i]? = some (.m o) ∧ η p = some o ∧ nrM o := by
  have hl := h.len
  have lt : i < as.length := by rw [hl]; exact (List.getElem?_eq_some_iff.mp e).1
  have ea : as[i]? = some as[i] := List.getElem?_eq_getElem lt
  rcases h.get ea with ⟨x, q1, q2, q3⟩ | ⟨o, q, q1, q2, q3, q4⟩
  · rw [e] at q2; cases q2; simp [nr] at q3
  · rw [e] at q2; cases q2; exact ⟨o, by rw [ea, q1], q3, q4⟩
theorem adrs_inj : ∀ {ds : List D} {i j : Nat} {p : Addr}, (adrs ds).Nodup → ds[i]? = some (.ref p) → ds[j]? = some (.ref p) → i = j
  | [], _, _, _, _, h, _ => by simp at h
  | d :: ds, 0, 0, _, _, _, _ => rfl
  | d :: ds, 0, j + 1, p, n, h, h' => by
    simp at h h'
    subst h
    have : p ∈ adrs ds := adrs_mem.mpr (List.mem_of_getElem? h')
    have n : (p :: adrs ds).Nodup := n
    exact absurd this (List.nodup_cons.mp n).1
  | d :: ds, i + 1, 0, p, n, h, h' => by
    simp at h h'
    subst h'
    have : p ∈ adrs ds := adrs_mem.mpr (List.mem_of_getElem? h)
    have n : (p :: adrs ds).Nodup := n
    exact absurd this (List.nodup_cons.mp n).1
  | d :: ds, i + 1, j + 1, p, n, h, h' => by
    have n' : (adrs ds).Nodup := by
      cases d with
      | ref q => exact (List.nodup_cons.mp (show (q :: adrs ds).Nodup from n)).2
      | _ => exact n
    have q : i = j := adrs_inj n' (by simpa using h) (by simpa using h')
    rw [q]
def startA : Ar → Option Sv
  | .d x => some (.d x)
  | .m o => some (.m true o)
def startF (N : Nat) (as : List Ar) : FS := as.map startA ++ List.replicate (N - as.length) none
def backA (fs : FS) : Nat → List Ar → Option (List Ar)
  | _, [] => some []
  | i, .d x :: r => match backA fs (i + 1) r with
    | some as => some (.d x :: as)
    | none => none
  | i, .m _ :: r => match fs[i]?, backA fs (i + 1) r with
    | some (some (.m true o)), some as => some (.m o :: as)
    | _, _ => none
def retV (fs : FS) : FV → Option FV
  | .d x => some (.d x)
  | .f o => some (.f o)
  | .s i => match fs[i]? with
    | some (some (.m false o)) => some (.f o)
    | _ => none
theorem retV_s {fs : FS} {i : Nat} {v : FV} (h : retV fs (.s i) = some v) : ∃ o, fs[i]? = some (some (.m false o)) ∧ v = .f o := by
  have h : (match fs[i]? with
    | some (some (.m false o)) => some (FV.f o)
    | _ => none) = some v := h
  split at h
  · rename_i o e; cases h; exact ⟨o, e, rfl⟩
  · cases h
def finF (as : List Ar) : O → Rm
  | .rt v s => match retV s v, backA s 0 as with
    | some v', some as' => .ok v' as'
    | _, _ => .bad
  | .nx s => match backA s 0 as with
    | some as' => .ok (.d .non) as'
    | none => .bad
  | .ex x s => match backA s 0 as with
    | some as' => .ex x as'
    | none => .bad
  | _ => .bad
def defF (N np : Nat) (body : FSt) : MF := fun as => if as.length = np then finF as (body (startF N as)) else .bad
def startB (η : Eta) (ds : List D) : Om := ⟨fun a => if a ∈ adrs ds then none else η a, fun i => match ds[i]? with
  | some (.ref p) => some p
  | _ => none, fun _ => none⟩
theorem startF_get {N : Nat} {as : List Ar} {i : Nat} {sv : Sv} (h : (startF N as)[i]? = some (some sv)) : ∃ a, as[i]? = some a ∧ startA a = some sv := by
  unfold startF at h
  by_cases hi : i < as.length
  · rw [List.getElem?_append_left (by simpa using hi), List.getElem?_map, List.getElem?_eq_getElem hi] at h
    exact ⟨as[i], List.getElem?_eq_getElem hi, by simpa using h⟩
  · rw [List.getElem?_append_right (by simpa using hi), List.getElem?_replicate] at h
    split at h <;> cases h
theorem st_start {names : List Str} {η : Eta} {as : List Ar} {ds : List D} (h : AR η as ds) (n : (adrs ds).Nodup) : St (startB η ds) (startF names.length as) (dstart names ds) η := by
  have hl := h.len
  have dget : ∀ {i : Nat} {x : D}, ds[i]? = some x → (dstart names ds)[i]? = some (some x) := fun {i x} e => by
    unfold dstart
    rw [List.getElem?_append_left (by rw [List.length_map]; exact (List.getElem?_eq_some_iff.mp e).1), List.getElem?_map, e]; rfl
  refine ⟨by simp [startF, dstart, hl], fun i x e => ?_, fun i pr o e => ?_, fun i o e => ?_, fun i p e => (nomatch e), fun i j pr pr' o o' p e1 e2 h1 h2 => ?_, fun a o e => ?_, fun i p e => ?_⟩
  · obtain ⟨a, ea, es⟩ := startF_get e
    rcases h.get ea with ⟨y, rfl, q2, q3⟩ | ⟨o, p, rfl, _⟩
    · cases es; exact ⟨dget q2, q3⟩
    · cases es
  · obtain ⟨a, ea, es⟩ := startF_get e
    rcases h.get ea with ⟨y, rfl, _⟩ | ⟨o', p, rfl, q2, q3, q4⟩
    · cases es
    · cases es
      refine ⟨p, dget q2, q3, ?_, q4, fun _ => ?_, fun z => by cases z⟩
      · show (if p ∈ adrs ds then none else η p) = none
        rw [if_pos (adrs_mem.mpr (List.mem_of_getElem? q2))]
      · show (match ds[i]? with | some (.ref p) => some p | _ => none) = some p
        rw [q2]
  · obtain ⟨a, ea, es⟩ := startF_get e
    cases a <;> cases es
  · obtain ⟨a, ea, es⟩ := startF_get e1
    obtain ⟨b, eb, ec⟩ := startF_get e2
    rcases h.get ea with ⟨y, rfl, _⟩ | ⟨o1, p1, rfl, q2, q3, q4⟩
    · cases es
    rcases h.get eb with ⟨y, rfl, _⟩ | ⟨o2, p2, rfl, r2, r3, r4⟩
    · cases ec
    rw [dget q2] at h1; cases h1
    rw [dget r2] at h2; cases h2
    exact adrs_inj n q2 r2
  · have e : (if a ∈ adrs ds then none else η a) = some o := e
    split at e
    · cases e
    · exact e
  · have e : (match ds[i]? with | some (.ref p) => some p | _ => none) = some p := e
    split at e
    · rename_i q eq
      cases e
      obtain ⟨o, _, q, _⟩ := h.ref eq
      rw [q]; simp
    · cases e
section
variable {η η' : Eta} {ds : List D} {fs : FS} {δ : DSt}
theorem backA_ok (s : St (startB η ds) fs δ η') : ∀ {as as' : List Ar} {es : List D} {k : Nat}, (∀ i, es[i]? = ds[k + i]?) → AR η as es → backA fs k as = some as' → AR η' as' es
  | [], _, [], k, _, _, h => by cases h; exact True.intro
  | [], _, _ :: _, _, _, a, _ => a.elim
  | .d _ :: _, _, [], _, _, a, _ => a.elim
  | .m _ :: _, _, [], _, _, a, _ => a.elim
  | .d x :: as, as', d :: es, k, he, ⟨a1, a2⟩, h => by
    unfold backA at h
    split at h
    · rename_i as2 e
      cases h
      exact ⟨a1, backA_ok s (k := k + 1) (fun i => by have := he (i + 1); rw [show k + 1 + i = k + (i + 1) by omega]; simpa using this) a2 e⟩
    · cases h
  | .m o :: as, as', d :: es, k, he, ⟨⟨p, ed, a1, a3⟩, a2⟩, h => by
    subst ed
    unfold backA at h
    split at h
    · rename_i o' as2 e1 e2
      cases h
      refine ⟨?_, backA_ok s (k := k + 1) (fun i => by have := he (i + 1); rw [show k + 1 + i = k + (i + 1) by omega]; simpa using this) a2 e2⟩
      obtain ⟨q, q1, q2, q3, q4, q5, q6⟩ := s.m k true o' e1
      have q5 : (match ds[k]? with | some (.ref p) => some p | _ => none) = some q := q5 rfl
      have h0 := he 0
      rw [Nat.add_zero] at h0
      rw [← h0] at q5
      have q5 : some p = some q := q5
      cases q5
      exact ⟨p, rfl, q2, q4⟩
    · cases h
theorem frm_of (s : St (startB η ds) fs δ η') : Frm η ds η' := fun a h1 h2 => by
  cases e : η a with
  | none => exact absurd e h1
  | some o =>
    rw [s.fr a o (show (if a ∈ adrs ds then none else η a) = some o by rw [if_neg h2]; exact e)]
theorem retV_ok {v v' : FV} {d : D} (s : St (startB η ds) fs δ η') (r : VR (startB η ds) fs δ η' v d) (h : retV fs v = some v') : RR η η' v' d := by
  have low : ∀ {p : Addr}, (startB η ds).b p = none → (∀ j, (startB η ds).ps j ≠ some p) → η p = none := fun {p} h1 h2 => by
    have h1 : (if p ∈ adrs ds then none else η p) = none := h1
    split at h1
    · rename_i hm
      obtain ⟨j, hj⟩ := List.mem_iff_getElem?.mp (adrs_mem.mp hm)
      exact absurd (show (match ds[j]? with | some (.ref p) => some p | _ => none) = some p by rw [hj]) (h2 j)
    · exact h1
  cases v with
  | d x => cases h; exact r
  | f o =>
    cases h
    obtain ⟨p, rfl, h1, n, f⟩ := r
    exact ⟨p, rfl, h1, low f.b f.ps, n⟩
  | s i =>
    obtain ⟨o, e, rfl⟩ := retV_s h
    obtain ⟨p, q1, q2, q3, q4, q5, q6⟩ := s.m i false o e
    have r : δ[i]? = some (some d) := r
    rw [q1] at r; cases r
    exact ⟨p, rfl, q2, low q3 (q6 rfl), q4⟩
end
theorem def_ok {names : List Str} {N np : Nat} {t : DS} {body : FSt} (hb : ImpS t body) (hN : names.length = N) {as : List Ar} {ds : List D} {η : Eta} {Z : Xk} {Φ : DK} (h1 : AR η as ds) (h2 : (adrs ds).Nodup) (h3 : PostC η ds (defF N np body as) Z Φ) : t Z (Pend Φ) (dstart names ds) η := by
  subst hN
  refine hb (startB η ds) (startF names.length as) (dstart names ds) η Z _ (st_start h1 h2) ?_
  unfold defF at h3
  split at h3
  case isFalse => exact h3.elim
  cases e : body (startF names.length as) with
  | bad => rw [e] at h3; exact h3
  | bk s => rw [e] at h3; exact h3.elim
  | ct s => rw [e] at h3; exact h3.elim
  | nx s =>
    rw [e] at h3
    intro δ' η' s'
    unfold finF at h3
    dsimp only at h3
    split at h3
    · rename_i as' ea
      exact h3 .non η' (backA_ok s' (k := 0) (fun i => by rw [Nat.zero_add]) h1 ea) (frm_of s') ⟨rfl, rfl⟩
    · exact h3.elim
  | ex x s =>
    rw [e] at h3
    intro δ' η' s' nx
    unfold finF at h3
    dsimp only at h3
    split at h3
    · rename_i as' ea
      exact h3 η' (backA_ok s' (k := 0) (fun i => by rw [Nat.zero_add]) h1 ea) (frm_of s') nx
    · exact h3.elim
  | rt v s =>
    rw [e] at h3
    intro d δ' η' s' r'
    unfold finF at h3
    dsimp only at h3
    split at h3
    · rename_i v' as' ev ea
      exact h3 d η' (backA_ok s' (k := 0) (fun i => by rw [Nat.zero_add]) h1 ea) (frm_of s') (retV_ok s' r' ev)
    · exact h3.elim
theorem ctf_body {names : List Str} {N np : Nat} {t : DS} {body : FSt} (hb : ImpS t body) (hN : names.length = N) {ds : List D} {η : Eta} {Z : Xk} {Φ : DK} (h : CtF (defF N np body) ds η Z Φ) : t Z (Pend Φ) (dstart names ds) η := by
  obtain ⟨as, h1, h2, h3⟩ := h
  exact def_ok hb hN h1 h2 h3
theorem ctf_len {N np : Nat} {body : FSt} {ds : List D} {η : Eta} {Z : Xk} {Φ : DK} (h : CtF (defF N np body) ds η Z Φ) : ds.length = np := by
  obtain ⟨as, h1, h2, h3⟩ := h
  unfold defF at h3
  split at h3
  · rename_i e; rw [← h1.len]; exact e
  · exact h3.elim
theorem ctf_bad {ds : List D} {η : Eta} {Z : Xk} {Φ : DK} (h : CtF (fun _ => .bad) ds η Z Φ) : False := by
  obtain ⟨as, h1, h2, h3⟩ := h; exact h3
theorem ctf_law {m : MF} {ns : List Int} {Z : Xk} {Φ : DK} (h : ∃ as', m [.d (.klst (ns.map D.int))] = .ok (.d (.bl true)) as') (h2 : ∀ η, Φ (.bl true) η) : CtF m [.klst (ns.map D.int)] (fun _ => none) Z Φ := by
  obtain ⟨as', e⟩ := h
  refine ⟨[.d (.klst (ns.map D.int))], ⟨⟨rfl, ?_⟩, True.intro⟩, List.nodup_nil, ?_⟩
  · show nrs (ns.map D.int) = true
    exact nrs_of fun d hd => by obtain ⟨i, -, rfl⟩ := List.mem_map.mp hd; rfl
  · rw [e]
    rintro d η' _ _ ⟨rfl, _⟩
    exact h2 η'
theorem cls_nil {P : Addr → Prop} : ∀ C ∈ ([] : List Addr), P C := fun C h => nomatch h
theorem cls_cons {P : Addr → Prop} {A : Addr} {l : List Addr} (h : P A) (t : ∀ C ∈ l, P C) : ∀ C ∈ A :: l, P C := fun C hC => by
  rcases List.mem_cons.mp hC with rfl | hC
  · exact h
  · exact t C hC
def arOf (fs : FS) : FV → Option Ar
  | .d x => some (.d x)
  | .f o => some (.m o)
  | .s i => match fs[i]? with
    | some (some (.m _ o)) => some (.m o)
    | _ => none
theorem arOf_s {fs : FS} {i : Nat} {a : Ar} (h : arOf fs (.s i) = some a) : ∃ pr o, fs[i]? = some (some (.m pr o)) ∧ a = .m o := by
  have h : (match fs[i]? with
    | some (some (.m _ o)) => some (Ar.m o)
    | _ => none) = some a := h
  split at h
  · rename_i pr o e; cases h; exact ⟨pr, o, e, rfl⟩
  · cases h
def arsOf (fs : FS) : List FV → Option (List Ar)
  | [] => some []
  | v :: vs => match arOf fs v, arsOf fs vs with
    | some a, some as => some (a :: as)
    | _, _ => none
def slotsOf : List FV → List Nat
  | [] => []
  | .s i :: vs => i :: slotsOf vs
  | _ :: vs => slotsOf vs
theorem arsOf_slot {fs : FS} {j : Nat} : ∀ {vs : List FV} {as : List Ar} {k : Nat}, arsOf fs vs = some as → vs[k]? = some (.s j) → ∃ pr o, fs[j]? = some (some (.m pr o))
  | [], _, _, _, h => by simp at h
  | w :: ws, as, k, ha, hk => by
    unfold arsOf at ha
    split at ha
    · rename_i a as3 e3 e4
      cases k with
      | zero =>
        cases hk
        obtain ⟨pr, o, e, _⟩ := arOf_s e3
        exact ⟨pr, o, e⟩
      | succ k => exact arsOf_slot e4 (by simpa using hk)
    · cases ha
theorem slotsOf_mem {i : Nat} : ∀ {vs : List FV} {k : Nat}, vs[k]? = some (.s i) → i ∈ slotsOf vs
  | [], _, h => by simp at h
  | w :: ws, 0, h => by cases h; exact List.mem_cons_self
  | w :: ws, k + 1, h => by
    have := slotsOf_mem (vs := ws) (k := k) (by simpa using h)
    cases w with
    | s j => exact List.mem_cons_of_mem _ this
    | d x => exact this
    | f o => exact this
def nodupB : List Nat → Bool
  | [] => true
  | i :: is => !is.contains i && nodupB is
def putBack : FS → List FV → List Ar → Option FS
  | fs, [], [] => some fs
  | fs, .d _ :: vs, .d _ :: as => putBack fs vs as
  | fs, .f _ :: vs, .m _ :: as => putBack fs vs as
  | fs, .s i :: vs, .m o :: as => match fs[i]? with
    | some (some (.m pr _)) => putBack (fs.set i (some (.m pr o))) vs as
    | _ => none
  | _, _, _ => none
/-- the callee's function at the frame's values -/
def callR (mf : MF) (fs : FS) (vs : List FV) : Rs (FV × List Ar) := match arsOf fs vs with
  | some as => if nodupB (slotsOf vs) then match mf as with
    | .ok v as' => match putBack fs vs as' with
      | some fs' => .ok (v, as') fs'
      | none => .bad
    | .ex x as' => match putBack fs vs as' with
      | some fs' => .ex x fs'
      | none => .bad
    | .bad => .bad
    else .bad
  | none => .bad
def callF (mf : MF) (fs : FS) (vs : List FV) : Rs FV := (callR mf fs vs).bind fun r fs' => match r.1 with
  | .s _ => .bad
  | v => .ok v fs'
theorem nodupB_ok : ∀ {is : List Nat}, nodupB is = true → is.Nodup
  | [], _ => List.nodup_nil
  | i :: is, h => by
    unfold nodupB at h
    rw [Bool.and_eq_true] at h
    refine List.nodup_cons.mpr ⟨fun z => ?_, nodupB_ok h.2⟩
    have := h.1
    rw [List.contains_iff_mem.mpr z] at this
    cases this
section
variable {B : Om} {fs fs' : FS} {δ : DSt} {η η' : Eta} {vs : List FV} {ds : List D} {as as' : List Ar}
theorem arsOf_ok (s : St B fs δ η) (r : VRs B fs δ η vs ds) (h : arsOf fs vs = some as) : AR η as ds := by
  induction vs generalizing ds as B with
  | nil =>
    cases ds with
    | nil => cases h; exact True.intro
    | cons _ _ => exact r.elim
  | cons v vs ih =>
    cases ds with
    | nil => exact r.elim
    | cons d ds =>
      obtain ⟨r1, r2⟩ := r
      unfold arsOf at h
      split at h
      · rename_i a as2 e1 e2
        cases h
        have t := ih (s.ext_ r1) r2 e2
        cases v with
        | d x => cases e1; exact ⟨r1, t⟩
        | f o => cases e1; obtain ⟨p, q1, q2, q3, _⟩ := r1; exact ⟨⟨p, q1, q2, q3⟩, t⟩
        | s i =>
          obtain ⟨pr, o, e, rfl⟩ := arOf_s e1
          obtain ⟨p, q1, q2, q3, q4, _⟩ := s.m i pr o e
          have r1 : δ[i]? = some (some d) := r1
          rw [q1] at r1; cases r1
          exact ⟨⟨p, rfl, q2, q4⟩, t⟩
      · cases h
/-- whose an argument's address is -/
theorem VRs.addr {p : Addr} {k : Nat} {v : FV} (s : St B fs δ η) (r : VRs B fs δ η vs ds) (hd : ds[k]? = some (.ref p)) (hv : vs[k]? = some v) : (∃ i, v = .s i ∧ δ[i]? = some (some (.ref p))) ∨ (∃ o, v = .f o ∧ Frs B fs δ p) := by
  have q := r.one.2 k v (.ref p) hv hd
  cases v with
  | d x => obtain ⟨rfl, n⟩ := q; simp [nr] at n
  | s i => exact .inl ⟨i, rfl, q⟩
  | f o => obtain ⟨p', e, _, _, f⟩ := q; cases e; exact .inr ⟨o, rfl, f⟩
theorem VRs.nodup (s : St B fs δ η) (r : VRs B fs δ η vs ds) (ha : arsOf fs vs = some as) (hn : (slotsOf vs).Nodup) : (adrs ds).Nodup := by
  induction vs generalizing ds as B with
  | nil =>
    cases ds with
    | nil => exact List.nodup_nil
    | cons _ _ => exact r.elim
  | cons v vs ih =>
    cases ds with
    | nil => exact r.elim
    | cons d ds =>
      obtain ⟨r1, r2⟩ := r
      unfold arsOf at ha
      split at ha
      · rename_i a as2 e1 e2
        have hn' : (slotsOf vs).Nodup := by
          cases v with
          | s i => exact (List.nodup_cons.mp (show (i :: slotsOf vs).Nodup from hn)).2
          | d x => exact hn
          | f o => exact hn
        have t := ih (s.ext_ r1) r2 e2 hn'
        cases d with
        | ref p =>
          refine List.nodup_cons.mpr ⟨fun hm => ?_, t⟩
          obtain ⟨k, hk⟩ := List.mem_iff_getElem?.mp (adrs_mem.mp hm)
          have lt : k < vs.length := by rw [r2.one.1]; exact (List.getElem?_eq_some_iff.mp hk).1
          have hv : vs[k]? = some vs[k] := List.getElem?_eq_getElem lt
          rcases r2.addr (s.ext_ r1) hk hv with ⟨j, ej, qj⟩ | ⟨o', eo, f⟩
          · obtain ⟨pr, o2, q⟩ := arsOf_slot e2 (show vs[k]? = some (.s j) by rw [hv, ej])
            cases v with
            | d x => obtain ⟨e, n⟩ := r1; rw [← e] at n; simp [nr] at n
            | f o =>
              obtain ⟨p', e, h1, n, f⟩ := r1
              cases e
              exact f.sl j pr o2 q qj
            | s i =>
              have r1 : δ[i]? = some (some (.ref p)) := r1
              obtain ⟨pr', o, qi, _⟩ := arOf_s e1
              have ij := s.inj i j pr' pr o o2 p qi q r1 qj
              subst ij
              exact (List.nodup_cons.mp (show (i :: slotsOf vs).Nodup from hn)).1 (slotsOf_mem (show vs[k]? = some (.s i) by rw [hv, ej]))
          · cases v with
            | d x => obtain ⟨e, n⟩ := r1; rw [← e] at n; simp [nr] at n
            | f o =>
              have := f.b
              have : eup B.b p o p = none := this
              rw [eup_same] at this; cases this
            | s i =>
              have r1 : δ[i]? = some (some (.ref p)) := r1
              obtain ⟨pr, o, e6, _⟩ := arOf_s e1
              exact f.sl i pr o e6 r1
        | _ => exact t
      · cases ha
theorem putBack_get : ∀ {vs : List FV} {as : List Ar} {fs fs' : FS}, putBack fs vs as = some fs' → fs'.length = fs.length ∧ ∀ i : Nat, (fs'[i]? = fs[i]? ∧ ∀ (k : Nat) (o : M), ¬ (vs[k]? = some (FV.s i) ∧ as[k]? = some (Ar.m o))) ∨ ∃ (pr : Bool) (o0 o : M) (k : Nat), fs[i]? = some (some (Sv.m pr o0)) ∧ fs'[i]? = some (some (Sv.m pr o)) ∧ vs[k]? = some (FV.s i) ∧ as[k]? = some (Ar.m o)
  | [], [], fs, fs', h => by cases h; exact ⟨rfl, fun i => .inl ⟨rfl, fun k o z => by simp at z⟩⟩
  | [], _ :: _, _, _, h => by cases h
  | .d _ :: _, [], _, _, h => by cases h
  | .f _ :: _, [], _, _, h => by cases h
  | .s _ :: _, [], _, _, h => by cases h
  | .d _ :: _, .m _ :: _, _, _, h => by cases h
  | .f _ :: _, .d _ :: _, _, _, h => by cases h
  | .s _ :: _, .d _ :: _, _, _, h => by cases h
  | .d x :: vs, .d y :: as, fs, fs', h => by
    obtain ⟨h1, h2⟩ := putBack_get (vs := vs) (as := as) h
    refine ⟨h1, fun i => ?_⟩
    rcases h2 i with ⟨e, n⟩ | ⟨pr, o0, o, k, e1, e2, e3, e4⟩
    · refine .inl ⟨e, fun k o z => ?_⟩
      cases k with
      | zero => simp at z
      | succ k => exact n k o (by simpa using z)
    · exact .inr ⟨pr, o0, o, k + 1, e1, e2, by simpa using e3, by simpa using e4⟩
  | .f x :: vs, .m y :: as, fs, fs', h => by
    obtain ⟨h1, h2⟩ := putBack_get (vs := vs) (as := as) h
    refine ⟨h1, fun i => ?_⟩
    rcases h2 i with ⟨e, n⟩ | ⟨pr, o0, o, k, e1, e2, e3, e4⟩
    · refine .inl ⟨e, fun k o z => ?_⟩
      cases k with
      | zero => simp at z
      | succ k => exact n k o (by simpa using z)
    · exact .inr ⟨pr, o0, o, k + 1, e1, e2, by simpa using e3, by simpa using e4⟩
  | .s j :: vs, .m y :: as, fs, fs', h => by
    unfold putBack at h
    split at h
    · rename_i pr0 o00 ej
      have lt : j < fs.length := (List.getElem?_eq_some_iff.mp ej).1
      obtain ⟨h1, h2⟩ := putBack_get (vs := vs) (as := as) h
      refine ⟨by rw [h1, List.length_set], fun i => ?_⟩
      rcases h2 i with ⟨e, n⟩ | ⟨pr, o0, o, k, e1, e2, e3, e4⟩
      · by_cases ij : j = i
        · subst ij
          rw [List.getElem?_set_self lt] at e
          exact .inr ⟨pr0, o00, y, 0, ej, e, rfl, rfl⟩
        · rw [List.getElem?_set_ne ij] at e
          refine .inl ⟨e, fun k o z => ?_⟩
          cases k with
          | zero => simp at z; exact ij z.1
          | succ k => exact n k o (by simpa using z)
      · rcases get_set e1 with ⟨rfl, e1, -⟩ | ⟨ne, e1⟩
        · cases e1
          exact .inr ⟨_, o00, o, k + 1, ej, e2, by simpa using e3, by simpa using e4⟩
        · exact .inr ⟨pr, o0, o, k + 1, e1, e2, by simpa using e3, by simpa using e4⟩
    · cases h
/-- behind a call -/
theorem St.after (s : St B fs δ η) (r : VRs B fs δ η vs ds) (ha : AR η' as' ds) (hf : Frm η ds η') (hp : putBack fs vs as' = some fs') : St B fs' δ η' := by
  obtain ⟨hl, hg⟩ := putBack_get hp
  have hlen := r.one.1
  -- an address that is no argument's
  have keep : ∀ {a : Addr}, η a ≠ none → a ∉ adrs ds → η' a = η a := fun {a} h1 h2 => hf a h1 h2
  have touched : ∀ {p : Addr}, p ∈ adrs ds → (∃ o, η' p = some o) ∧ ((∃ (i k : Nat), vs[k]? = some (FV.s i) ∧ δ[i]? = some (some (D.ref p)) ∧ ∃ o : M, as'[k]? = some (Ar.m o) ∧ η' p = some o ∧ nrM o) ∨ Frs B fs δ p) := fun {p} hm => by
    obtain ⟨k, hk⟩ := List.mem_iff_getElem?.mp (adrs_mem.mp hm)
    obtain ⟨o, q1, q2, q3⟩ := ha.ref hk
    have lt : k < vs.length := by rw [hlen]; exact (List.getElem?_eq_some_iff.mp hk).1
    rcases r.addr s hk (List.getElem?_eq_getElem lt) with ⟨i, e, q⟩ | ⟨o', _, f⟩
    · exact ⟨⟨o, q2⟩, .inl ⟨i, k, by rw [List.getElem?_eq_getElem lt, e], q, o, q1, q2, q3⟩⟩
    · exact ⟨⟨o, q2⟩, .inr f⟩
  refine ⟨by rw [hl]; exact s.len, fun i x e => ?_, fun i pr o e => ?_, fun i o e => ?_, fun i p e => ?_, fun i j pr pr' o o' p e1 e2 h1 h2 => ?_, fun a o e => ?_, fun i p e => ?_⟩
  · rcases hg i with ⟨q, _⟩ | ⟨pr, o0, o, k, _, q, _⟩
    · rw [q] at e; exact s.d i x e
    · rw [q] at e; cases e
  · rcases hg i with ⟨q, n⟩ | ⟨pr2, o0, o2, k, q1, q2, q3, q4⟩
    · rw [q] at e
      obtain ⟨p, p1, p2, p3, p4⟩ := s.m i pr o e
      refine ⟨p, p1, ?_, p3, p4⟩
      by_cases hm : p ∈ adrs ds
      · rcases (touched hm).2 with ⟨j, k, t1, t2, o3, t3, t4, t5⟩ | f
        · -- slot j has the same address: is it i?
          rcases hg j with ⟨qj, nj⟩ | ⟨prj, oj0, oj, kj, qj1, _⟩
          · exact absurd ⟨t1, t3⟩ (nj k o3)
          · have := s.inj i j pr prj o oj0 p e qj1 p1 t2
            subst this
            exact absurd ⟨t1, t3⟩ (n k o3)
        · exact absurd p1 (f.sl i pr o e)
      · rw [keep (by rw [p2]; simp) hm]; exact p2
    · rw [q2] at e; cases e
      obtain ⟨p, p1, p2, p3, p4, p5⟩ := s.m i pr o0 q1
      have lt : k < ds.length := by rw [← hlen]; exact (List.getElem?_eq_some_iff.mp q3).1
      have hd : ds[k]? = some ds[k] := List.getElem?_eq_getElem lt
      have qv : δ[i]? = some (some ds[k]) := r.one.2 k (.s i) _ q3 hd
      rw [p1] at qv
      have ek : ds[k] = .ref p := (Option.some.inj (Option.some.inj qv)).symm
      rw [ek] at hd
      obtain ⟨o3, t1, t2, t3⟩ := ha.ref hd
      rw [q4] at t1; cases t1
      exact ⟨p, p1, t2, p3, t3, p5⟩
  · rcases hg i with ⟨q, _⟩ | ⟨pr, o0, o2, k, _, q, _⟩
    · rw [q] at e; exact s.l i o e
    · rw [q] at e; cases e
  · obtain ⟨⟨o, q1⟩, q2⟩ := s.lk i p e
    rcases hg i with ⟨q, _⟩ | ⟨pr, o0, o2, k, q, _⟩
    · exact ⟨⟨o, by rw [q]; exact q1⟩, q2⟩
    · rw [q1] at q; cases q
  · have old : ∀ {i : Nat} {pr : Bool} {o : M}, fs'[i]? = some (some (Sv.m pr o)) → ∃ (pr : Bool) (o : M), fs[i]? = some (some (Sv.m pr o)) := fun {i pr o} e => by
      rcases hg i with ⟨q, _⟩ | ⟨pr2, o0, o2, k, q1, _⟩
      · exact ⟨pr, o, by rw [q] at e; exact e⟩
      · exact ⟨pr2, o0, q1⟩
    obtain ⟨_, _, f1⟩ := old e1
    obtain ⟨_, _, f2⟩ := old e2
    exact s.inj i j _ _ _ _ p f1 f2 h1 h2
  · have e0 := s.fr a o e
    by_cases hm : a ∈ adrs ds
    · rcases (touched hm).2 with ⟨j, k, t1, t2, o3, t3, t4, t5⟩ | f
      · rcases hg j with ⟨qj, nj⟩ | ⟨prj, oj0, oj, kj, qj1, _⟩
        · exact absurd ⟨t1, t3⟩ (nj k o3)
        · obtain ⟨p, p1, p2, p3, _⟩ := s.m j prj oj0 qj1
          rw [t2] at p1; cases p1
          rw [p3] at e; cases e
      · rw [f.b] at e; cases e
    · rw [keep (by rw [e0]; simp) hm]; exact e0
  · have h0 := s.pn i p e
    by_cases hm : p ∈ adrs ds
    · obtain ⟨o, q⟩ := (touched hm).1
      rw [q]; simp
    · rw [keep h0 hm]; exact h0
/-- a new object behind a call -/
theorem VR.after {p : Addr} {o : M} (s : St B fs δ η) (s' : St B fs' δ η') (h0 : η p = none) (h1 : η' p = some o) (n : nrM o) (hp : putBack fs vs as' = some fs') : VR B fs' δ η' (.f o) (.ref p) := by
  have f := s.frs h0
  refine ⟨p, rfl, h1, n, f.b, fun i pr o' e q => ?_, f.ps, f.lk⟩
  rcases (putBack_get hp).2 i with ⟨e2, _⟩ | ⟨pr2, o0, o2, k, e2, _⟩
  · rw [e2] at e; exact f.sl i pr o' e q
  · exact f.sl i pr2 o0 e2 q
theorem Frs.back {q : Addr} (f : Frs B fs δ q) (hp : putBack fs vs as' = some fs') : Frs B fs' δ q := by
  refine ⟨f.b, fun i pr o' e z => ?_, f.ps, f.lk⟩
  rcases (putBack_get hp).2 i with ⟨e2, _⟩ | ⟨pr2, o0, o2, k, e2, _⟩
  · rw [e2] at e; exact f.sl i pr o' e z
  · exact f.sl i pr2 o0 e2 z
/-- the callee's contract at the frame's values -/
theorem call_ok {mf : MF} {Z : Xk} {Φ : DK} {Ψ : FV × List Ar → FS → Rs FV} (s : St B fs δ η) (r : VRs B fs δ η vs ds) (h : Post B δ VR ((callR mf fs vs).bind Ψ) Z Φ)
    {Φ' : DK} (k : ∀ v as' fs' d η', St B fs' δ η' → AR η' as' ds → (∀ x, v = .d x → d = x ∧ nr x = true) → (∀ o, v = .f o → VR B fs' δ η' (.f o) d) → (∀ i, v ≠ .s i) → (∀ q, Frs B fs δ q → Frs B fs' δ q) → Post B δ VR (Ψ (v, as') fs') Z Φ → Φ' d η') :
    ∃ as, AR η as ds ∧ (adrs ds).Nodup ∧ PostC η ds (mf as) Z Φ' := by
  unfold callR at h
  cases e : arsOf fs vs with
  | none => rw [e] at h; exact h.elim
  | some as =>
    rw [e] at h
    dsimp only at h
    split at h
    · rename_i hn
      refine ⟨as, arsOf_ok s r e, r.nodup s e (nodupB_ok hn), ?_⟩
      cases e2 : mf as with
      | bad => rw [e2] at h; exact h
      | ex x as' =>
        rw [e2] at h
        intro η' ha hf nx
        cases e3 : putBack fs vs as' with
        | none => simp [e3, Rs.bind, Post] at h
        | some fs' =>
          simp only [e3] at h
          exact h η' (s.after r ha hf e3) nx
      | ok v as' =>
        rw [e2] at h
        intro d η' ha hf hr
        cases e3 : putBack fs vs as' with
        | none => simp [e3, Rs.bind, Post] at h
        | some fs' =>
          simp only [e3] at h
          have s' := s.after r ha hf e3
          refine k v as' fs' d η' s' ha (fun x ev => ?_) (fun o ev => ?_) (fun i ev => ?_) (fun q f => f.back e3) h
          · rw [ev] at hr; exact hr
          · rw [ev] at hr
            obtain ⟨p, rfl, h1, h2, h3⟩ := hr
            exact VR.after s s' h2 h1 h3 e3
          · rw [ev] at hr; exact hr
    · exact h.elim
theorem callF_ok {mf : MF} {Z : Xk} {Φ : DK} (s : St B fs δ η) (r : VRs B fs δ η vs ds) (h : Post B δ VR (callF mf fs vs) Z Φ) : ∃ as, AR η as ds ∧ (adrs ds).Nodup ∧ PostC η ds (mf as) Z Φ := by
  refine call_ok s r h fun v as' fs' d η' s' ha hd hf hs _ h' => ?_
  cases v with
  | d x => exact h' d η' s' (hd x rfl)
  | f o => exact h' d η' s' (hf o rfl)
  | s i => exact absurd rfl (hs i)
end
end DL
end
section
set_option Elab.async false
set_option linter.all false
set_option autoImplicit false
set_option maxRecDepth 100000
set_option maxHeartbeats 4000000
namespace DL
open PySem PySem.Spec PyProof.Rows L2
/-- where no exception may leave -/
def noX (mf : MF) : MF := fun as => match mf as with
  | .ok v as' => .ok v as'
  | _ => .bad
section
variable {B : Om} {fs : FS} {δ : DSt} {η : Eta} {v : FV} {d : D} {vs : List FV} {ds dds : List D}
theorem VRs.appD (r : VRs B fs δ η vs ds) (n : nrs dds = true) : VRs B fs δ η (vs ++ dds.map FV.d) (ds ++ dds) := by
  have base : ∀ {B : Om} {dds : List D}, nrs dds = true → VRs B fs δ η (dds.map FV.d) dds := by
    intro B dds
    induction dds generalizing B with
    | nil => exact fun _ => True.intro
    | cons d ds ih =>
      intro n
      exact ⟨⟨rfl, nrs_mem n List.mem_cons_self⟩, ih (nrs_of fun x hx => nrs_mem n (List.mem_cons_of_mem _ hx))⟩
  induction vs generalizing ds B with
  | nil =>
    cases ds with
    | nil => exact base n
    | cons _ _ => exact r.elim
  | cons v vs ih =>
    cases ds with
    | nil => exact r.elim
    | cons d ds => exact ⟨r.1, ih r.2⟩
/-- beside a new object -/
theorem VRs.newM {p : Addr} {o : M} (h : η p = none) (r : VRs B fs δ η vs ds) : VRs ⟨eup B.b p o, B.ps, B.lk⟩ fs δ (eup η p o) vs ds := by
  have key : ∀ (vs : List FV) (ds : List D) (B B' : Om), (∀ q, q ≠ p → B.b q = none → B'.b q = none) → (∀ q, (∀ j, B.ps j ≠ some q) → ∀ j, B'.ps j ≠ some q) → (∀ q, (∀ j, B.lk j ≠ some q) → ∀ j, B'.lk j ≠ some q) → VRs B fs δ η vs ds → VRs B' fs δ (eup η p o) vs ds := by
    intro vs
    induction vs with
    | nil =>
      intro ds B B' _ _ _ r
      cases ds with
      | nil => exact True.intro
      | cons _ _ => exact r.elim
    | cons v vs ih =>
      intro ds B B' hb hp hl r
      cases ds with
      | nil => exact r.elim
      | cons d ds =>
        obtain ⟨r1, r2⟩ := r
        cases v with
        | d x => exact ⟨r1, ih ds B B' hb hp hl r2⟩
        | s i => exact ⟨r1, ih ds B B' hb hp hl r2⟩
        | f o' =>
          obtain ⟨q, rfl, h1, n, f⟩ := r1
          have ne : q ≠ p := by rintro rfl; rw [h] at h1; cases h1
          refine ⟨⟨q, rfl, by rw [eup_ne ne]; exact h1, n, hb q ne f.b, f.sl, hp q f.ps, hl q f.lk⟩, ih ds (ext B (.f o') (.ref q)) (ext B' (.f o') (.ref q)) (fun a na ha => ?_) hp hl r2⟩
          have ha : eup B.b q o' a = none := ha
          show eup B'.b q o' a = none
          by_cases e : a = q
          · subst e; rw [eup_same] at ha; cases ha
          · rw [eup_ne e] at ha ⊢; exact hb a na ha
  exact key vs ds B _ (fun q ne hq => by show eup B.b p o q = none; rw [eup_ne ne]; exact hq) (fun _ h => h) (fun _ h => h) r
end
section
variable {mf : MF} {dds : List D} {dr dk : DA} {fr fk : FA} {do_ : DE} {fo : FE}
def fCall (mf : MF) (dds : List D) (fr : FA) : FE := fun fs => (fr fs).bind fun vs fs1 => callF mf fs1 (vs ++ dds.map FV.d)
theorem imp_call (hd : nrs dds = true := by rfl) (hr : ImpG VRs dr fr) : ImpG VR (dCall (CtF mf) dds dr) (fCall mf dds fr) := fun B fs δ η Z Φ s h => hr B fs δ η Z _ s (Post.bind h fun vs fs1 ds1 η1 s1 r1 h1 => by
  obtain ⟨as, a1, a2, a3⟩ := callF_ok s1 (r1.appD hd) h1
  exact ⟨as, a1, a2, a3⟩)
/-- with keywords: the values in the parameters' order -/
theorem VRs.pick_ {B : Om} {fs : FS} {δ : DSt} {η : Eta} {vs : List FV} {ds : List D} (hl : vs.length = ds.length) (h : ∀ (k : Nat) (v : FV) (d : D), vs[k]? = some v → ds[k]? = some d → VR B fs δ η v d) (hf : ∀ v ∈ vs, ∀ o, v ≠ .f o) : ∀ idx : List Nat, VRs B fs δ η (pick idx vs) (pick idx ds)
  | [] => True.intro
  | i :: idx => by
    have t := VRs.pick_ hl h hf idx
    unfold pick at *
    rw [List.filterMap_cons, List.filterMap_cons]
    cases e : vs[i]? with
    | none =>
      have : ds[i]? = none := by rw [List.getElem?_eq_none_iff] at e ⊢; omega
      rw [this]; exact t
    | some v =>
      have lt : i < ds.length := by rw [← hl]; exact (List.getElem?_eq_some_iff.mp e).1
      have e2 : ds[i]? = some ds[i] := List.getElem?_eq_getElem lt
      rw [e2]
      refine ⟨h i v _ e e2, ?_⟩
      have nf := hf v (List.mem_of_getElem? e)
      cases v with
      | d x => exact t
      | s j => exact t
      | f o => exact absurd rfl (nf o)
def FV.isF : FV → Bool
  | .f _ => true
  | _ => false
def fCallK (mf : MF) (n m : Nat) (idx : List Nat) (fr fk : FA) : FE := fun fs => (fr fs).bind fun vs fs1 => if vs.any FV.isF then .bad else (fk fs1).bind fun ws fs2 => if vs.length = n ∧ ws.length = m ∧ ws.any FV.isF = false then callF mf fs2 (pick idx (vs ++ ws)) else .bad
theorem VRs.stay {B : Om} {fs fs' : FS} {δ : DSt} {η η' : Eta} {vs : List FV} {ds : List D} (r : VRs B fs δ η vs ds) (hf : vs.any FV.isF = false) : vs.length = ds.length ∧ ∀ (k : Nat) (v : FV) (d : D), vs[k]? = some v → ds[k]? = some d → VR B fs' δ η' v d := by
  obtain ⟨h1, h2⟩ := r.one
  refine ⟨h1, fun k v d hv hd => (h2 k v d hv hd).keep fun o e => ?_⟩
  rw [List.any_eq_false] at hf
  exact hf v (List.mem_of_getElem? hv) (by rw [e]; rfl)
theorem noF {vs : List FV} (hf : vs.any FV.isF = false) : ∀ v ∈ vs, ∀ o, v ≠ .f o := fun v hv o e => by
  rw [List.any_eq_false] at hf
  exact hf v hv (by rw [e]; rfl)
theorem app_get {α β : Type} {P : α → β → Prop} {as as' : List α} {bs bs' : List β} (hl : as.length = bs.length) (h : ∀ (k : Nat) (a : α) (b : β), as[k]? = some a → bs[k]? = some b → P a b) (h' : ∀ (k : Nat) (a : α) (b : β), as'[k]? = some a → bs'[k]? = some b → P a b) : ∀ (k : Nat) (a : α) (b : β), (as ++ as')[k]? = some a → (bs ++ bs')[k]? = some b → P a b := fun k a b ha hb => by
  by_cases lt : k < as.length
  · rw [List.getElem?_append_left lt] at ha
    rw [List.getElem?_append_left (by omega)] at hb
    exact h k a b ha hb
  · rw [List.getElem?_append_right (by omega)] at ha
    rw [List.getElem?_append_right (by omega), ← hl] at hb
    exact h' _ a b ha hb
theorem imp_callK {n m : Nat} {idx : List Nat} (hr : ImpG VRs dr fr) (hk : ImpG VRs dk fk) : ImpG VR (dCallK (CtF mf) n m idx dr dk) (fCallK mf n m idx fr fk) := fun B fs δ η Z Φ s h => hr B fs δ η Z _ s (Post.bind h fun vs fs1 ds1 η1 s1 r1 h1 => by
  split at h1
  · exact h1.elim
  · rename_i nf1
    have nf1 : vs.any FV.isF = false := by simpa using nf1
    refine hk B fs1 δ η1 Z _ s1 (Post.bind h1 fun ws fs2 es η2 s2 r2 h2 => ?_)
    split at h2
    · rename_i c
      obtain ⟨c1, c2, c3⟩ := c
      obtain ⟨l1, g1⟩ := r1.stay (fs' := fs2) (η' := η2) nf1
      obtain ⟨l2, g2⟩ := r2.stay (fs' := fs2) (η' := η2) c3
      refine ⟨by rw [← l1]; exact c1, by rw [← l2]; exact c2, ?_⟩
      have nf : ∀ v ∈ vs ++ ws, ∀ o, v ≠ FV.f o := fun v hv => by
        rcases List.mem_append.mp hv with z | z
        · exact noF nf1 v z
        · exact noF c3 v z
      obtain ⟨as, a1, a2, a3⟩ := callF_ok s2 (VRs.pick_ (by simp [l1, l2]) (app_get l1 g1 g2) nf idx) h2
      exact ⟨as, a1, a2, a3⟩
    · exact h2.elim)
def isObj (C : Addr) (m : Str) : Option D → Bool
  | some (.obj C' ns es) => decide (C' = C) && (lkp ns es m).isNone
  | _ => false
def fMeth (C : Addr) (m : Str) (mf : MF) (dds : List D) (fo : FE) (fr : FA) : FE := fun fs => (fo fs).bind fun v fs1 => if v.isF = false ∧ isObj C m (rsv fs1 v) = true then (fr fs1).bind fun vs fs2 => callF mf fs2 (v :: (vs ++ dds.map FV.d)) else .bad
def fMethK (C : Addr) (m : Str) (mf : MF) (n q : Nat) (idx : List Nat) (dds : List D) (fo : FE) (fr fk : FA) : FE := fun fs => (fo fs).bind fun v fs1 => if v.isF = false ∧ isObj C m (rsv fs1 v) = true then (fr fs1).bind fun vs fs2 => if vs.any FV.isF then .bad else (fk fs2).bind fun ws fs3 => if vs.length = n ∧ ws.length = q ∧ ws.any FV.isF = false then callF mf fs3 (pick idx ((v :: vs) ++ (ws ++ dds.map FV.d))) else .bad else .bad
/-- C.m(..), a static method -/
def fStat (mf : MF) (dds : List D) (fr : FA) : FE := fCall mf dds fr
def madeO (C : Addr) : FV × List Ar → Option M
  | (.d .non, .m (.ins C' ns es) :: _) => if C' = C then some (.ins C ns es) else none
  | _ => none
def fMake (C : Addr) (mf : MF) (dds : List D) (fr : FA) : FE := fun fs => (fr fs).bind fun vs fs1 => (callR mf fs1 (.f (.ins C [] []) :: (vs ++ dds.map FV.d))).bind fun r fs2 => match madeO C r with
  | some o => .ok (.d (mD o)) fs2
  | none => .bad
def fMakeM (C : Addr) (mf : MF) (dds : List D) (fr : FA) : FE := fun fs => (fr fs).bind fun vs fs1 => (callR mf fs1 (.f (.ins C [] []) :: (vs ++ dds.map FV.d))).bind fun r fs2 => match madeO C r with
  | some o => .ok (.f o) fs2
  | none => .bad
def isOb (C : Addr) : Option D → Bool
  | some (.obj C' _ _) => decide (C' = C)
  | _ => false
def fOwn (C : Addr) (mf : MF) : FO2 := fun fs x y => if x.isF = false ∧ y.isF = false ∧ isOb C (rsv fs x) = true ∧ isOb C (rsv fs y) = true then callF (noX mf) fs [x, y] else .bad
def isLs (fs : FS) : FV → Bool
  | .s k => match slotM fs k with
    | some (.lst _) => true
    | _ => false
  | _ => false
def fApp (fo : FE) (fr : FA) : FE := fun fs => (fo fs).bind fun v fs1 => if isLs fs1 v = true then (fr fs1).bind fun vs fs2 => match v, vs with
  | .s k, [.d z] => match fs2[k]? with
    | some (some (.m pr (.lst xs))) => if xs.length < most then .ok (.d .non) (fs2.set k (some (.m pr (.lst (xs ++ [z]))))) else .bad
    | _ => .bad
  | _, _ => .bad else .bad
theorem St.at_ {B : Om} {fs : FS} {δ : DSt} {η : Eta} {k : Nat} {o : M} {d : D} (s : St B fs δ η) (e : slotM fs k = some o) (r : δ[k]? = some (some d)) : ∃ p, d = .ref p ∧ η p = some o := by
  rcases slotM_some e with ⟨pr, e2⟩ | e2
  · obtain ⟨p, p1, p2, _⟩ := s.m k pr o e2
    rw [r] at p1; cases p1; exact ⟨p, rfl, p2⟩
  · obtain ⟨p, p1, p2, _⟩ := s.l k o e2
    rw [r] at p1; cases p1; exact ⟨p, rfl, s.fr p _ p2⟩
end
end DL
end
section
set_option Elab.async false
set_option linter.all false
set_option autoImplicit false
set_option maxRecDepth 100000
set_option maxHeartbeats 4000000
namespace DL
open PySem PySem.Spec PyProof.Rows L2
section
variable {η : Eta} {x y a : D} {xs : List D}
theorem rd_case : (∃ p o, x = .ref p ∧ η p = some o ∧ rd η x = mD o) ∨ (rd η x = x) := by
  cases x with
  | ref p =>
    cases e : η p with
    | none => exact .inr (by simp [rd, e])
    | some o => exact .inl ⟨p, o, rfl, e, by simp [rd, e]⟩
  | _ => exact .inr rfl
theorem rd_lst (h : rd η x = .lst xs) : asL η x = some xs := by
  rcases rd_case (η := η) (x := x) with ⟨p, o, rfl, e, q⟩ | q
  · rw [q] at h
    cases o with
    | lst ys => cases h; simp [asL, e]
    | _ => cases h
  · rw [q] at h; subst h; rfl
theorem rd_lstS (h : rd η x = .lst xs) : asS η x = some xs := by
  rcases rd_case (η := η) (x := x) with ⟨p, o, rfl, e, q⟩ | q
  · rw [q] at h
    cases o with
    | lst ys => cases h; simp [asS, e]
    | _ => cases h
  · rw [q] at h; subst h; rfl
theorem rd_tup (h : rd η x = .tup xs) : x = .tup xs := by
  rcases rd_case (η := η) (x := x) with ⟨p, o, rfl, e, q⟩ | q
  · rw [q] at h; cases o <;> cases h
  · rw [← q]; exact h
theorem rd_int {i : Int} (h : rd η x = .int i) : x = .int i := by
  rcases rd_case (η := η) (x := x) with ⟨p, o, rfl, e, q⟩ | q
  · rw [q] at h; cases o <;> cases h
  · rw [← q]; exact h
theorem rd_str {z : Str} (h : rd η x = .str z) : x = .str z := by
  rcases rd_case (η := η) (x := x) with ⟨p, o, rfl, e, q⟩ | q
  · rw [q] at h; cases o <;> cases h
  · rw [← q]; exact h
theorem rd_bl {b : Bool} (h : rd η x = .bl b) : x = .bl b := by
  rcases rd_case (η := η) (x := x) with ⟨p, o, rfl, e, q⟩ | q
  · rw [q] at h; cases o <;> cases h
  · rw [← q]; exact h
theorem rd_klst (h : rd η x = .klst xs) : x = .klst xs := by
  rcases rd_case (η := η) (x := x) with ⟨p, o, rfl, e, q⟩ | q
  · rw [q] at h; cases o <;> cases h
  · rw [← q]; exact h
theorem rd_ty {n : String} (h : rd η x = .ty n) : x = .ty n := by
  rcases rd_case (η := η) (x := x) with ⟨p, o, rfl, e, q⟩ | q
  · rw [q] at h; cases o <;> cases h
  · rw [← q]; exact h
theorem rd_tupS (h : rd η x = .tup xs) : asS η x = some xs := by rw [rd_tup h]; rfl
/-- data that can be compared is read by unref too -/
theorem rd_unref (o : pyOk (rd η x) = true) : unref η x = rd η x := by
  rcases rd_case (η := η) (x := x) with ⟨p, m, rfl, e, q⟩ | q
  · rw [q] at o ⊢
    cases m with
    | lst ys => simp [unref, e, mD]
    | ins _ _ _ => simp [mD, pyOk] at o
    | dct _ _ => simp [mD, pyOk] at o
  · rw [q]
    cases x with
    | ref p => rw [q] at o; simp [pyOk] at o
    | _ => rfl
end
def eqOk (a b : D) : Bool := pyOk a && pyOk b && decide (min (toPy a).depth (toPy b).depth ≤ 60)
theorem eqOk_ok {a b : D} (h : eqOk a b = true) : pyOk a = true ∧ pyOk b = true ∧ dDep a b := by
  unfold eqOk at h
  rw [Bool.and_eq_true, Bool.and_eq_true, decide_eq_true_eq] at h
  exact ⟨h.1.1, h.1.2, h.2⟩
def gEq (a b : D) : Option D := if eqOk a b = true then some (.bl (dEqv a b)) else none
def gNe (a b : D) : Option D := if eqOk a b = true then some (.bl (!dEqv a b)) else none
theorem impo_eq : ImpO2 oEq (op2 gEq) := imp_o2 fun η dx dy Φ z n1 n2 h => by
  unfold gEq at h
  split at h
  · rename_i c
    obtain ⟨o1, o2, o3⟩ := eqOk_ok c
    cases h
    refine ⟨rfl, fun k => ?_⟩
    unfold oEq
    rw [rd_unref o1, rd_unref o2]
    exact ⟨o1, o2, o3, k⟩
  · cases h
theorem impo_ne : ImpO2 oNe (op2 gNe) := imp_o2 fun η dx dy Φ z n1 n2 h => by
  unfold gNe at h
  split at h
  · rename_i c
    obtain ⟨o1, o2, o3⟩ := eqOk_ok c
    cases h
    refine ⟨rfl, fun k => ?_⟩
    unfold oNe
    rw [rd_unref o1, rd_unref o2]
    exact ⟨o1, o2, o3, k⟩
  · cases h
/-- two ints -/
def gI (c : Int → Int → Bool) (f : Int → Int → D) : D → D → Option D
  | .int i, .int j => if c i j = true then some (f i j) else none
  | _, _ => none
def cT : Int → Int → Bool := fun _ _ => true
def cPos : Int → Int → Bool := fun _ j => decide (0 < j)
def cDiv : Int → Int → Bool := fun _ j => decide (0 < j) && decide (j.natAbs.log2 < 9000)
def cMul : Int → Int → Bool := fun i j => (decide (-18446744073709551616 < i) && decide (i < 18446744073709551616)) || (decide (-18446744073709551616 < j) && decide (j < 18446744073709551616))
def cPow : Int → Int → Bool := fun i j => decide (0 ≤ j) && decide (j ≤ 1000) && decide (i.natAbs < 18446744073709551616)
theorem impo_I {C : Int → Int → Prop} {c : Int → Int → Bool} {f : Int → Int → D} (hc : ∀ i j, c i j = true → C i j) (hf : ∀ i j, nr (f i j) = true) : ImpO2 (oI C f) (op2 (gI c f)) := imp_o2 fun η dx dy Φ z n1 n2 h => by
  unfold gI at h
  split at h
  · rename_i i j e1 e2
    split at h
    · rename_i cc
      cases h
      exact ⟨hf i j, fun k => ⟨i, j, rd_int e1, rd_int e2, hc i j cc, k⟩⟩
    · cases h
  · cases h
theorem cT_ok : ∀ i j, cT i j = true → CT i j := fun _ _ _ => True.intro
theorem cPos_ok : ∀ i j : Int, cPos i j = true → 0 < j := fun _ _ h => of_decide_eq_true h
theorem cDiv_ok : ∀ i j, cDiv i j = true → CDivW i j := fun i j h => by
  unfold cDiv at h
  rw [Bool.and_eq_true, decide_eq_true_eq, decide_eq_true_eq] at h
  exact ⟨h.1, h.2⟩
theorem cMul_ok : ∀ i j, cMul i j = true → CMulU i j := fun i j h => by
  unfold cMul at h
  rw [Bool.or_eq_true, Bool.and_eq_true, Bool.and_eq_true, decide_eq_true_eq, decide_eq_true_eq, decide_eq_true_eq, decide_eq_true_eq] at h
  rcases h with h | h
  · exact .inl (.inl ⟨h.1, h.2⟩)
  · exact .inl (.inr ⟨h.1, h.2⟩)
theorem cPow_ok : ∀ i j, cPow i j = true → CPow i j := fun i j h => by
  unfold cPow at h
  rw [Bool.and_eq_true, Bool.and_eq_true, decide_eq_true_eq, decide_eq_true_eq, decide_eq_true_eq] at h
  exact ⟨h.1.1, Int.le_trans h.1.2 (by decide), h.2⟩
def gSubI := gI cT fun i j => .int (i - j)
def gDivI := gI cDiv fun i j => .int (i / j)
def gModI := gI cPos fun i j => .int (i % j)
def gMulI := gI cMul fun i j => .int (i * j)
def gPowI := gI cPow fun i j => .int (i ^ j.toNat)
def gLtI := gI cT fun i j => .bl (decide (i < j))
def gLeI := gI cT fun i j => .bl (decide (i ≤ j))
def gGtI := gI cT fun i j => .bl (decide (j < i))
def gGeI := gI cT fun i j => .bl (decide (j ≤ i))
def gAddI := gI cT fun i j => .int (i + j)
theorem impo_div : ImpO2 (oI CDivW fun i j => .int (i / j)) (op2 gDivI) := impo_I cDiv_ok fun _ _ => rfl
theorem impo_mod : ImpO2 (oI (fun _ j => 0 < j) fun i j => .int (i % j)) (op2 gModI) := impo_I cPos_ok fun _ _ => rfl
theorem impo_mul : ImpO2 oMul (op2 gMulI) := impo_I cMul_ok fun _ _ => rfl
theorem impo_pow : ImpO2 (oI CPow fun i j => .int (i ^ j.toNat)) (op2 gPowI) := impo_I cPow_ok fun _ _ => rfl
theorem impo_lt : ImpO2 (oI CT fun i j => .bl (decide (i < j))) (op2 gLtI) := impo_I cT_ok fun _ _ => rfl
theorem impo_le : ImpO2 (oI CT fun i j => .bl (decide (i ≤ j))) (op2 gLeI) := impo_I cT_ok fun _ _ => rfl
theorem impo_gt : ImpO2 (oI CT fun i j => .bl (decide (j < i))) (op2 gGtI) := impo_I cT_ok fun _ _ => rfl
theorem impo_ge : ImpO2 (oI CT fun i j => .bl (decide (j ≤ i))) (op2 gGeI) := impo_I cT_ok fun _ _ => rfl
/-- + -/
def gAdd : D → D → Option D
  | .int i, .int j => some (.int (i + j))
  | .str a, .str b => if a.length + b.length ≤ most then some (.str (a ++ b)) else none
  | .tup a, .tup b => if a.length + b.length ≤ most then some (.tup (a ++ b)) else none
  | .lst a, .lst b => if a.length + b.length ≤ most then some (.lst (a ++ b)) else none
  | _, _ => none
theorem impo_add : ImpO2 oAdd (op2 gAdd) := imp_o2 fun η dx dy Φ z n1 n2 h => by
  unfold gAdd at h
  split at h
  · rename_i i j e1 e2
    cases h
    refine ⟨rfl, fun k => ?_⟩
    rw [rd_int e1, rd_int e2]; exact k
  · rename_i a b e1 e2
    split at h
    · rename_i l
      cases h
      refine ⟨rfl, fun k => ?_⟩
      rw [rd_str e1, rd_str e2]; exact ⟨le_most l, k⟩
    · cases h
  · rename_i a b e1 e2
    split at h
    · rename_i l
      cases h
      rw [e1] at n1; rw [e2] at n2
      refine ⟨by simpa [nr] using nrs_app (by simpa [nr] using n1) (by simpa [nr] using n2), fun k => ?_⟩
      rw [rd_tup e1, rd_tup e2]; exact ⟨le_most l, k⟩
    · cases h
  · rename_i a b e1 e2
    split at h
    · rename_i l
      cases h
      rw [e1] at n1; rw [e2] at n2
      refine ⟨by simpa [nr] using nrs_app (by simpa [nr] using n1) (by simpa [nr] using n2), fun k => ?_⟩
      have q1 := rd_lst e1
      have q2 := rd_lst e2
      unfold oAdd
      split
      · cases q1
      · cases q1
      · cases q1
      · cases q1; cases q2; exact ⟨le_most l, k⟩
      · exact ⟨a, b, q1, q2, le_most l, k⟩
    · cases h
  · cases h
/-- a list, a tuple -/
def seqD : D → Option (List D)
  | .lst xs => some xs
  | .tup xs => some xs
  | _ => none
theorem seqD_ok {η : Eta} {x : D} {xs : List D} (h : seqD (rd η x) = some xs) : asS η x = some xs := by
  unfold seqD at h
  split at h
  · rename_i e; cases h; exact rd_lstS e
  · rename_i e; cases h; exact rd_tupS e
  · cases h
theorem seqD_nr {d : D} {xs : List D} (n : nr d = true) (h : seqD d = some xs) : nrs xs = true := by
  unfold seqD at h
  split at h
  · cases h; simpa [nr] using n
  · cases h; simpa [nr] using n
  · cases h
def lstD : D → Option (List D)
  | .lst xs => some xs
  | _ => none
theorem lstD_ok {η : Eta} {x : D} {xs : List D} (h : lstD (rd η x) = some xs) : asL η x = some xs := by
  unfold lstD at h
  split at h
  · rename_i e; cases h; exact rd_lst e
  · cases h
/-- xs[i] -/
def gIx : D → D → Option D
  | a, .int i => match a with
    | .str z => match L2.atI z.cps.toList i with
      | some c => some (.str ⟨#[c]⟩)
      | none => none
    | .lst xs => L2.atI xs i
    | .tup xs => L2.atI xs i
    | _ => none
  | _, _ => none
theorem impo_ix : ImpO2 oIx (op2 gIx) := imp_o2 fun η dx dy Φ z n1 n2 h => by
  unfold gIx at h
  split at h
  · rename_i i e2
    split at h
    · rename_i s e1
      split at h
      · rename_i c e
        cases h
        refine ⟨rfl, fun k => ?_⟩
        rw [rd_str e1, rd_int e2]; exact ⟨c, e, k⟩
      · cases h
    · rename_i xs e1
      rw [e1] at n1
      refine ⟨nrs_mem (by simpa [nr] using n1) (atI_mem h), fun k => ?_⟩
      have q := rd_lstS e1
      rw [rd_int e2]
      cases dx with
      | str _ => cases q
      | _ => exact ⟨xs, z, q, h, k⟩
    · rename_i xs e1
      rw [e1] at n1
      refine ⟨nrs_mem (by simpa [nr] using n1) (atI_mem h), fun k => ?_⟩
      rw [rd_int e2, rd_tup e1]
      exact ⟨xs, z, rfl, h, k⟩
    · cases h
  · cases h
/-- slices -/
def gCut : D → Option Int → Option Int → Option D
  | .str z, lo, hi => some (.str (cutS z lo hi))
  | .tup xs, lo, hi => some (.tup (cutD xs lo hi))
  | .lst xs, lo, hi => some (.lst (cutD xs lo hi))
  | .klst xs, lo, hi => some (.lst (cutD xs lo hi))
  | _, _, _ => none
theorem nrs_cut {xs : List D} {lo hi : Option Int} (h : nrs xs = true) : nrs (cutD xs lo hi) = true := nrs_of fun d hd => nrs_mem h (List.mem_of_mem_drop (List.mem_of_mem_take hd))
theorem impsl_cut : ImpSl oSl gCut := fun η dx lo hi Φ z n h => by
  unfold gCut at h
  split at h
  · rename_i s e; cases h; exact ⟨rfl, fun k => by rw [rd_str e]; exact k⟩
  · rename_i xs e; cases h; rw [e] at n; exact ⟨by simpa [nr] using nrs_cut (by simpa [nr] using n), fun k => by rw [rd_tup e]; exact k⟩
  · rename_i xs e
    cases h
    rw [e] at n
    refine ⟨by simpa [nr] using nrs_cut (by simpa [nr] using n), fun k => ?_⟩
    have q := rd_lst e
    unfold oSl
    split
    · cases q
    · cases q
    · cases q; exact k
    · cases q
    · exact ⟨xs, q, k⟩
  · rename_i xs e; cases h; rw [e] at n; exact ⟨by simpa [nr] using nrs_cut (by simpa [nr] using n), fun k => by rw [rd_klst e]; exact k⟩
  · cases h
def gRev (a : D) : Option D := match lstD a with
  | some xs => some (.lst xs.reverse)
  | none => none
def gNeg : D → Option D
  | .int i => some (.int (-i))
  | _ => none
/-- in -/
def inOk (a : D) (xs : List D) : Bool := pyOk a && pyOks xs && decide (min (PyData.depthAll (toPys xs)) (toPy a).depth ≤ 60)
def gInB (neg : Bool) (a : D) : D → Option D
  | .str z => match a with
    | .str y => match y.cps.toList with
      | [c] => some (.bl (neg ^^ decide (c ∈ z.cps.toList)))
      | _ => none
    | _ => none
  | .lst xs => if inOk a xs = true then some (.bl (neg ^^ dIn a xs)) else none
  | .tup xs => if inOk a xs = true then some (.bl (neg ^^ dIn a xs)) else none
  | _ => none
theorem impo_in {neg : Bool} : ImpO2 (oInB neg) (op2 (gInB neg)) := imp_o2 fun η dx dy Φ z n1 n2 h => by
  have go : ∀ xs, asS η dy = some xs → (if inOk (rd η dx) xs = true then some (D.bl (neg ^^ dIn (rd η dx) xs)) else none) = some z → nr z = true ∧ (Φ z η → oInB neg dx dy η Φ) := fun xs q h => by
    split at h
    · rename_i c
      unfold inOk at c
      rw [Bool.and_eq_true, Bool.and_eq_true, decide_eq_true_eq] at c
      cases h
      refine ⟨rfl, fun k => ?_⟩
      unfold oInB
      split
      · cases q
      · rw [rd_unref c.1.1]; exact ⟨xs, q, c.1.1, c.1.2, c.2, k⟩
    · cases h
  unfold gInB at h
  split at h
  · rename_i s e2
    split at h
    · rename_i y e1
      split at h
      · rename_i c ec
        cases h
        refine ⟨rfl, fun k => ?_⟩
        rw [rd_str e1, rd_str e2]
        refine ⟨c, ?_, k⟩
        obtain ⟨cps⟩ := y
        have : cps = #[c] := by rw [← Array.toArray_toList (xs := cps), ec]
        rw [this]
      · cases h
    · cases h
  · rename_i xs e; exact go xs (rd_lstS e) h
  · rename_i xs e; exact go xs (rd_tupS e) h
  · cases h
/-- [x] * n -/
def gRep : D → D → Option D
  | .lst xs, .int k => if decide (-4611686018427387904 ≤ k) && decide (k < 4611686018427387904) && decide (xs.length * k.toNat ≤ most) then some (.lst (List.replicate k.toNat xs).flatten) else none
  | _, _ => none
/-- is None -/
def gIsN : D → D → Option D
  | a, .non => some (.bl (isNonD a))
  | _, _ => none
def gNotN : D → D → Option D
  | a, .non => some (.bl (!isNonD a))
  | _, _ => none
theorem rd_non {η : Eta} {x : D} (h : rd η x = .non) : x = .non := by
  rcases rd_case (η := η) (x := x) with ⟨p, o, rfl, e, q⟩ | q
  · rw [q] at h; cases o <;> cases h
  · rw [← q]; exact h
theorem rd_isNon {η : Eta} {x : D} : isNonD (rd η x) = isNonD x := by
  rcases rd_case (η := η) (x := x) with ⟨p, o, rfl, e, q⟩ | q
  · rw [q]; cases o <;> rfl
  · rw [q]
theorem impo_isN : ImpO2 oIsN (op2 gIsN) := imp_o2 fun η dx dy Φ z n1 n2 h => by
  unfold gIsN at h
  split at h
  · rename_i e; cases h; exact ⟨rfl, fun k => ⟨rd_non e, by rw [rd_isNon] at k; exact k⟩⟩
  · cases h
theorem impo_notN : ImpO2 oNotN (op2 gNotN) := imp_o2 fun η dx dy Φ z n1 n2 h => by
  unfold gNotN at h
  split at h
  · rename_i e; cases h; exact ⟨rfl, fun k => ⟨rd_non e, by rw [rd_isNon] at k; exact k⟩⟩
  · cases h
theorem map_one {η : Eta} {ds : List D} {a : D} (h : ds.map (rd η) = [a]) : ∃ x, ds = [x] ∧ rd η x = a := by
  match ds, h with
  | [x], h => exact ⟨x, rfl, by simpa using h⟩
theorem map_two {η : Eta} {ds : List D} {a b : D} (h : ds.map (rd η) = [a, b]) : ∃ x y, ds = [x, y] ∧ rd η x = a ∧ rd η y = b := by
  match ds, h with
  | [x, y], h => exact ⟨x, y, rfl, by simpa using h⟩
def gLen : List D → Option D
  | [.str z] => some (.int z.length)
  | [a] => match seqD a with
    | some xs => some (.int xs.length)
    | none => none
  | _ => none
theorem impn_len : ImpOn oLen (opn gLen) := imp_on fun η ds Φ z n h => by
  unfold gLen at h
  split at h
  · rename_i s e
    cases h
    obtain ⟨x, rfl, q⟩ := map_one e
    refine ⟨rfl, fun k => ?_⟩
    rw [rd_str q]; exact k
  · rename_i a hn e
    obtain ⟨x, rfl, q⟩ := map_one e
    split at h
    · rename_i xs ea
      cases h
      refine ⟨rfl, fun k => ?_⟩
      subst q
      have q := seqD_ok ea
      unfold oLen
      split
      · rename_i e9; cases e9; cases q
      · rename_i e9; cases e9; exact ⟨xs, q, k⟩
      · rename_i e9; exact absurd rfl (e9 x)
    · cases h
  · cases h
def gInt : List D → Option D
  | [.int i] => some (.int i)
  | [.bl b] => some (.int (b2I b))
  | _ => none
theorem impn_int : ImpOn oInt (opn gInt) := imp_on fun η ds Φ z n h => by
  unfold gInt at h
  split at h
  · rename_i i e; cases h; obtain ⟨x, rfl, q⟩ := map_one e; exact ⟨rfl, fun k => by rw [rd_int q]; exact k⟩
  · rename_i i e; cases h; obtain ⟨x, rfl, q⟩ := map_one e; exact ⟨rfl, fun k => by rw [rd_bl q]; exact k⟩
  · cases h
theorem nrs_one {η : Eta} {x : D} (n : nrs ([x].map (rd η)) = true) : nr (rd η x) = true := nrs_mem n (by simp)
def gList : List D → Option D
  | [a] => match seqD a with
    | some xs => some (.lst xs)
    | none => none
  | _ => none
theorem impn_list : ImpOn oList (opn gList) := imp_on fun η ds Φ z n h => by
  unfold gList at h
  split at h
  · rename_i a e
    obtain ⟨x, rfl, q⟩ := map_one e
    split at h
    · rename_i xs ea
      cases h
      subst q
      exact ⟨by simpa [nr] using seqD_nr (nrs_one n) ea, fun k => ⟨x, xs, rfl, seqD_ok ea, k⟩⟩
    · cases h
  · cases h
def gListM : List D → Option M
  | [a] => match seqD a with
    | some xs => some (.lst xs)
    | none => none
  | _ => none
def gTuple : List D → Option D
  | [a] => match seqD a with
    | some xs => some (.tup xs)
    | none => none
  | _ => none
theorem impn_tuple : ImpOn oTup (opn gTuple) := imp_on fun η ds Φ z n h => by
  unfold gTuple at h
  split at h
  · rename_i a e
    obtain ⟨x, rfl, q⟩ := map_one e
    split at h
    · rename_i xs ea
      cases h
      subst q
      exact ⟨by simpa [nr] using seqD_nr (nrs_one n) ea, fun k => ⟨x, xs, rfl, seqD_ok ea, k⟩⟩
    · cases h
  · cases h
def blsOf : List D → Option (List Bool)
  | [] => some []
  | .bl b :: ds => match blsOf ds with
    | some bs => some (b :: bs)
    | none => none
  | _ => none
theorem blsOf_ok : ∀ {ds : List D} {bs : List Bool}, blsOf ds = some bs → ds = bs.map D.bl
  | [], _, h => by cases h; rfl
  | d :: ds, bs, h => by
    cases d with
    | bl b =>
      cases e : blsOf ds with
      | none => simp [blsOf, e] at h
      | some r => simp [blsOf, e] at h; subst h; rw [blsOf_ok e]; rfl
    | _ => simp [blsOf] at h
def intsOf : List D → Option (List Int)
  | [] => some []
  | .int b :: ds => match intsOf ds with
    | some bs => some (b :: bs)
    | none => none
  | _ => none
def strsOf : List D → Option (List Str)
  | [] => some []
  | .str b :: ds => match strsOf ds with
    | some bs => some (b :: bs)
    | none => none
  | _ => none
theorem strsOf_ok : ∀ {ds : List D} {bs : List Str}, strsOf ds = some bs → ds = bs.map D.str
  | [], _, h => by cases h; rfl
  | d :: ds, bs, h => by
    cases d with
    | str b =>
      cases e : strsOf ds with
      | none => simp [strsOf, e] at h
      | some r => simp [strsOf, e] at h; subst h; rw [strsOf_ok e]; rfl
    | _ => simp [strsOf] at h
/-- a function of a list's items -/
def gOnL {α : Type} (f : List D → Option (List α)) (g : List α → Option D) : List D → Option D
  | [a] => match lstD a with
    | some xs => match f xs with
      | some bs => g bs
      | none => none
    | none => none
  | _ => none
theorem onL_ok {α : Type} {f : List D → Option (List α)} {g : List α → Option D} {η : Eta} {ds : List D} {z : D} (h : gOnL f g (ds.map (rd η)) = some z) : ∃ x xs bs, ds = [x] ∧ asL η x = some xs ∧ f xs = some bs ∧ g bs = some z := by
  unfold gOnL at h
  split at h
  · rename_i a e
    obtain ⟨x, rfl, q⟩ := map_one e
    split at h
    · rename_i xs ea
      split at h
      · rename_i bs eb
        subst q
        exact ⟨x, xs, bs, rfl, lstD_ok ea, eb, h⟩
      · cases h
    · cases h
  · cases h
def gAll := gOnL blsOf fun bs => some (.bl (bs.all id))
def gAny := gOnL blsOf fun bs => some (.bl (bs.any id))
def gSum := gOnL intsOf fun ns => some (.int ns.sum)
theorem impn_all : ImpOn oAll (opn gAll) := imp_on fun η ds Φ z n h => by
  obtain ⟨x, xs, bs, rfl, q1, q2, q3⟩ := onL_ok h
  cases q3
  exact ⟨rfl, fun k => ⟨x, bs, rfl, by rw [q1, blsOf_ok q2], k⟩⟩
def maxI : List Int → Option Int
  | [] => none
  | [a] => some a
  | a :: r => match maxI r with
    | some b => some (max a b)
    | none => none
def minI : List Int → Option Int
  | [] => none
  | [a] => some a
  | a :: r => match minI r with
    | some b => some (min a b)
    | none => none
def optI (o : Option Int) : Option D := o.map D.int
def gMaxL := gOnL intsOf fun ns => optI (maxI ns)
def gMinL := gOnL intsOf fun ns => optI (minI ns)
def insI (a : Int) : List Int → List Int
  | [] => [a]
  | b :: r => if a ≤ b then a :: b :: r else b :: insI a r
def sortI : List Int → List Int
  | [] => []
  | a :: r => insI a (sortI r)
def gSortI := gOnL intsOf fun ns => some (.lst ((sortI ns).map D.int))
def gAbs : List D → Option D
  | [.int i] => some (.int (if i < 0 then -i else i))
  | _ => none
def gI2 (f : Int → Int → Int) : List D → Option D
  | [.int i, .int j] => some (.int (f i j))
  | _ => none
def gMax := gI2 max
def gMin := gI2 min
def gGcd := gI2 fun i j => ((Nat.gcd i.natAbs j.natAbs : Nat) : Int)
def tyN0 : D → Option String
  | .non => some "NoneType"
  | .bl _ => some "bool"
  | .int _ => some "int"
  | .str _ => some "str"
  | .lst _ => some "list"
  | .tup _ => some "tuple"
  | .dct _ _ => some "dict"
  | _ => none
theorem tyN0_ok {η : Eta} {x : D} {t : String} (h : tyN0 (rd η x) = some t) : tyN η x = some t := by
  rcases rd_case (η := η) (x := x) with ⟨p, o, rfl, e, q⟩ | q
  · rw [q] at h
    cases o with
    | lst ys => cases h; simp [tyN, e]
    | dct _ _ => cases h; simp [tyN, e]
    | ins _ _ _ => cases h
  · rw [q] at h
    cases x with
    | ref p => cases h
    | obj _ _ _ => cases h
    | ty _ => cases h
    | klst _ => cases h
    | _ => exact h
def tysOf : List D → Option (List String)
  | [] => some []
  | .ty b :: ds => match tysOf ds with
    | some bs => some (b :: bs)
    | none => none
  | _ => none
theorem tysOf_ok : ∀ {ds : List D} {bs : List String}, tysOf ds = some bs → ds = bs.map D.ty
  | [], _, h => by cases h; rfl
  | d :: ds, bs, h => by
    cases d with
    | ty b =>
      cases e : tysOf ds with
      | none => simp [tysOf, e] at h
      | some r => simp [tysOf, e] at h; subst h; rw [tysOf_ok e]; rfl
    | _ => simp [tysOf] at h
def gIsi : List D → Option D
  | [x, .ty n] => match tyN0 x with
    | some a => if tyNames.contains n then some (.bl (isiB a n)) else none
    | none => none
  | [x, .tup ts] => match tyN0 x, tysOf ts with
    | some a, some ns => if (ns.all fun n => tyNames.contains n) = true then some (.bl (ns.any (isiB a))) else none
    | _, _ => none
  | _ => none
theorem impn_isi : ImpOn oIsi (opn gIsi) := imp_on fun η ds Φ z n h => by
  unfold gIsi at h
  split at h
  · rename_i x m e
    obtain ⟨a, b, rfl, q1, q2⟩ := map_two e
    rw [rd_ty q2]
    split at h
    · rename_i t et
      split at h
      · rename_i c
        cases h
        subst q1
        exact ⟨rfl, fun k => ⟨t, tyN0_ok et, c, k⟩⟩
      · cases h
    · cases h
  · rename_i x ts e
    obtain ⟨a, b, rfl, q1, q2⟩ := map_two e
    rw [rd_tup q2]
    split at h
    · rename_i t ns et en
      split at h
      · rename_i c
        cases h
        subst q1
        exact ⟨rfl, fun k => ⟨t, ns, tyN0_ok et, tysOf_ok en, c, k⟩⟩
      · cases h
    · cases h
  · cases h
def gJoin : D → List D → Option D
  | .str a, [y] => match seqD y with
    | some xs => match strsOf xs with
      | some ys => if (ys.map (·.length)).sum + ys.length * a.length ≤ most then some (.str (Str.join a ys)) else none
      | none => none
    | none => none
  | _, _ => none
theorem impm_join : ∀ η z d Φ r, nr (rd η d) = true → gJoin (.str z) [rd η d] = some r → nr r = true ∧ (Φ r η → oJoin (.str z) [d] η Φ) := fun η z d Φ r n h => by
  unfold gJoin at h
  dsimp only at h
  split at h
  · rename_i xs e
    split at h
    · rename_i ys e2
      split at h
      · rename_i l
        cases h
        exact ⟨rfl, fun k => ⟨z, d, ys, rfl, rfl, by rw [seqD_ok e, strsOf_ok e2], Nat.le_trans l (by decide), k⟩⟩
      · cases h
    · cases h
  · cases h
def gSetL : M → D → D → Option M
  | .lst ds, .int i, z => match ixN ds.length i with
    | some j => some (.lst (ds.set j z))
    | none => none
  | _, _, _ => none
theorem imps_setL : ImpSet oSet gSetL := fun η p dy y m m' Φ hp n nz h => by
  cases m with
  | ins _ _ _ => cases h
  | dct _ _ => cases h
  | lst ds =>
    cases ei : rd η dy with
    | int i =>
      rw [ei] at h
      have h : (match ixN ds.length i with
        | some j => some (M.lst (ds.set j y))
        | none => none) = some m' := h
      split at h
      · rename_i j ej
        cases h
        have n : nrs ds = true := by simpa [nrM, mD, nr] using n
        refine ⟨?_, fun k => ⟨p, i, ds, j, rfl, rd_int ei, hp, ej, k⟩⟩
        show nrs (ds.set j y) = true
        exact nrs_of fun d hd => by
          rcases List.mem_or_eq_of_mem_set hd with h | h
          · exact nrs_mem n h
          · rw [h]; exact nz
      · cases h
    | _ => rw [ei] at h; cases h
end DL
end
section
set_option Elab.async false
set_option linter.all false
set_option autoImplicit false
set_option maxRecDepth 100000
set_option maxHeartbeats 4000000
namespace DL
open PySem PySem.Spec PyProof.Rows L2
section
variable {P : Program} {w : World} {K : PySem.W.Frag} {mg : Str → Option Value} {base : Heap} {x qual : Str} {params : Arguments} {body : List Stmt} {scope : Scope} {dvs : List V} {kws ms : List (Str × V)} {f : Addr} {fd : FuncData} {N ps ks : List Str} {n j k : Nat} {idx : List Nat} {c : Ct}
/-- defaults behind the first j lack -/
theorem KBD.pos (F : FunD K x qual params body scope dvs kws f fd) (hd : dvs ≠ [])
    (h : ∀ (T : Addr) (kV doc pm : Value) (an : Option Addr) (cdv ct : Value) (us its ws : List Value), us.length = n → its.length = dvs.length → ws.length = ks.length →
      ∃ q, bindArgs (PySem.W.fnOf x qual params body scope (.ref T) kV doc pm an cdv ct) ⟨us, ks.zip ws⟩ = seqItems? (.ref T) >>= q ∧ q (some its.toArray) = pure (ps.zip (pick idx (us ++ (ws ++ its.drop j))))) : KBD K fd ps n ks idx (dvs.drop j) := by
  obtain ⟨oc, od, dV, kV, doc, pm, an, cdv, ct, osl, rfl, lk, hcd, hD, hK⟩ := F.ex
  rcases hD with ⟨e, _⟩ | ⟨_, T, o, its, m, rfl, lT, oT, rT⟩
  · exact absurd e hd
  · refine ⟨its.drop j, rT.drop j, fun s us ws X l1 l2 => BindsTo.of_looks fun M => ?_⟩
    obtain ⟨q, e1, e2⟩ := h T kV doc pm an cdv ct us its ws l1 rT.length.symm l2
    rw [e1]
    exact looks_items X lT oT (.of_pure e2)
/-- nothing lacks -/
theorem KBD.all (F : FunD K x qual params body scope [] kws f fd) (h : ∀ (kV doc pm : Value) (an : Option Addr) (cdv ct : Value) (us ws : List Value), us.length = n → ws.length = ks.length → bindArgs (PySem.W.fnOf x qual params body scope .none kV doc pm an cdv ct) ⟨us, ks.zip ws⟩ = pure (ps.zip (pick idx (us ++ (ws ++ []))))) : KBD K fd ps n ks idx [] := by
  obtain ⟨oc, od, dV, kV, doc, pm, an, cdv, ct, osl, rfl, lk, hcd, hD, hK⟩ := F.ex
  rcases hD with ⟨_, rfl⟩ | ⟨e, _⟩
  · exact KBD.of0 fun us ws => h kV doc pm an cdv ct us ws
  · exact absurd rfl e
end
end DL
end
section
set_option Elab.async false
set_option linter.all false
set_option autoImplicit false
set_option maxRecDepth 100000
set_option maxHeartbeats 4000000
namespace DL
open PySem PySem.Spec PyProof.Rows L2
section
variable {X : Cx}
def rSetL (K : PySem.W.Frag) (w : World) : List V → Hp → VK → Prop := fun xs H Q => ∃ (l : Addr) (ns : List Int), xs = [.ref l] ∧ SqL K H l (ns.map V.int) ∧ ns.length ≤ 1000 ∧ ∀ p c, H p = none → c ≤ ns.length → Q (.ref p) (upd H p (SetO w p (fun j => decide (j ∈ ns)) c))
variable {E : XK} {e : Expr} {ta : TA} {da : DA} {p1 p2 q1 q2 : Pos}
end
end DL
namespace DL
open PySem PySem.Spec PyProof.Rows L2
end DL
end
section
set_option Elab.async false
set_option linter.all false
set_option autoImplicit false
set_option maxRecDepth 100000
set_option maxHeartbeats 4000000
namespace DL
open PySem PySem.Spec PyProof.Rows L2
end DL
end
section
set_option Elab.async false
set_option linter.all false
set_option autoImplicit false
set_option maxRecDepth 100000
set_option maxHeartbeats 4000000
namespace DL
open PySem PySem.Spec PyProof.Rows L2
end DL
end
section
set_option Elab.async false
set_option linter.all false
set_option autoImplicit false
set_option maxRecDepth 100000
set_option maxHeartbeats 4000000
namespace DL
open PySem PySem.Spec PyProof.Rows L2
end DL
end
section
set_option Elab.async false
set_option linter.all false
set_option autoImplicit false
set_option maxRecDepth 100000
set_option maxHeartbeats 4000000
namespace DL
open PySem PySem.Spec PyProof.Rows L2
/-- a dict: its keys and its values -/
def dctD (η : Eta) : D → Option (List Key × List D)
  | .dct ks ds => some (ks, ds)
  | .ref p => match η p with
    | some (.dct ks ds) => some (ks, ds)
    | _ => none
  | _ => none
def lookK : List Key → List D → Key → Option D
  | k :: ks, d :: ds, q => if k = q then some d else lookK ks ds q
  | _, _, _ => none
def keyD : D → Option Key
  | .int i => some (.inl i)
  | .str x => some (.inr x)
  | _ => none
def kD : Key → D
  | .inl i => .int i
  | .inr x => .str x
section
variable {K : PySem.W.Frag} {R : Addr → Prop} {η : Eta} {H : Hp}
theorem dct_ref {p : Addr} {ks : List Key} {ds : List D} (h : dctD η (.ref p) = some (ks, ds)) : η p = some (.dct ks ds) := by
  cases e : η p with
  | none => simp [dctD, e] at h
  | some m =>
    cases m with
    | dct a b => simp [dctD, e] at h; rw [h.1, h.2]
    | _ => simp [dctD, e] at h
theorem dct_ok {v : V} {d : D} {ks : List Key} {ds : List D} (l : Lk K R η H) (r : Rep K R η H v d) (h : dctD η d = some (ks, ds)) : ∃ a kvs, v = .ref a ∧ Rd H a (.dK kvs) ∧ kvs.map (·.1) = ks ∧ Reps K R η H (kvs.map (·.2)) ds := by
  cases d with
  | dct ks' ds' =>
    cases h
    cases r with
    | dct a b c d e => exact ⟨_, _, rfl, .inr ⟨_, a⟩, d, e⟩
  | ref p =>
    cases r
    obtain ⟨kvs, h1, h2, h3⟩ := l.m p _ (dct_ref h)
    exact ⟨p, kvs, rfl, .inl h1, h2, h3⟩
  | _ => cases h
theorem keyD_ok {v : V} {d : D} {k : Key} (r : Rep K R η H v d) (h : keyD d = some k) : v = kV k := by
  cases d with
  | int i => cases h; cases r; rfl
  | str x => cases h; cases r; rfl
  | _ => cases h
theorem look_ok (q : Key) : ∀ {kvs : List (Key × V)} {ds : List D}, Reps K R η H (kvs.map (·.2)) ds → (valV kvs q = none ∧ lookK (kvs.map (·.1)) ds q = none) ∨ ∃ v d, valV kvs q = some v ∧ lookK (kvs.map (·.1)) ds q = some d ∧ Rep K R η H v d
  | [], _, h => by cases h; exact .inl ⟨rfl, rfl⟩
  | (k, v) :: kvs, ds, h => by
    cases h with
    | cons a b =>
      by_cases e : k = q
      · exact .inr ⟨v, _, valV_pos e, by simp [lookK, e], a⟩
      · rcases look_ok q b with ⟨h1, h2⟩ | ⟨w, d, h1, h2, h3⟩
        · exact .inl ⟨by rw [valV_neg e]; exact h1, by simpa [lookK, e] using h2⟩
        · exact .inr ⟨w, d, by rw [valV_neg e]; exact h1, by simpa [lookK, e] using h2, h3⟩
end
def rDGet : R2 := fun x y H Q => ∃ a v, x = .ref a ∧ DGet H a y (some v) ∧ Q v H
def oDGet : DR2 := fun x y η Φ => ∃ ks ds k d, dctD η x = some (ks, ds) ∧ keyD y = some k ∧ lookK ks ds k = some d ∧ Φ d η
theorem so_dget {K : PySem.W.Frag} : SoundR2 K rDGet oDGet := fun R η H x y dx dy Φ Q l rx ry h k => by
  obtain ⟨ks, ds, q, d, h1, h2, h3, h⟩ := h
  obtain ⟨a, kvs, rfl, h4, rfl, h6⟩ := dct_ok l rx h1
  obtain rfl := keyD_ok ry h2
  rcases look_ok q h6 with ⟨h7, h8⟩ | ⟨v, d', h7, h8, h9⟩
  · rw [h8] at h3; cases h3
  · rw [h8] at h3; cases h3
    exact ⟨a, v, rfl, .inl ⟨kvs, q, h4, rfl, h7.symm⟩, k v d H η l (Ext.refl _ _) h9 h⟩
/-- k in d, k not in d -/
def rDIn (neg : Bool) : R2 := fun y x H Q => ∃ a o, x = .ref a ∧ DGet H a y o ∧ Q (.bl (cond neg (!o.isSome) o.isSome)) H
def oDIn (neg : Bool) : DR2 := fun y x η Φ => ∃ ks ds k, dctD η x = some (ks, ds) ∧ keyD y = some k ∧ Φ (.bl (cond neg (!(lookK ks ds k).isSome) (lookK ks ds k).isSome)) η
theorem so_din {K : PySem.W.Frag} {neg : Bool} : SoundR2 K (rDIn neg) (oDIn neg) := fun R η H y x dy dx Φ Q l ry rx h k => by
  obtain ⟨ks, ds, q, h1, h2, h⟩ := h
  obtain ⟨a, kvs, rfl, h4, rfl, h6⟩ := dct_ok l rx h1
  obtain rfl := keyD_ok ry h2
  rcases look_ok q h6 with ⟨h7, h8⟩ | ⟨v, d', h7, h8, h9⟩
  · rw [h8] at h
    exact ⟨a, none, rfl, .inl ⟨kvs, q, h4, rfl, h7.symm⟩, k _ _ H η l (Ext.refl _ _) (.bl _) h⟩
  · rw [h8] at h
    exact ⟨a, some v, rfl, .inl ⟨kvs, q, h4, rfl, h7.symm⟩, k _ _ H η l (Ext.refl _ _) (.bl _) h⟩
section
variable {X : Cx} {E : XK} {o i : Expr} {to ti : TE} {do_ di : DE} {pos apos : Pos}
theorem pd_dget (hu : X.A.units + 64 < cLine) (ho : PD X E o to do_) (hi : PD X E i ti di) (hs : NoSl i := by intro _ _; rfl) : PD X E (.Subscript o i pos) (tOp rDGet to ti) (dOp oDGet do_ di) := ⟨pe_dget (by omega) ho.pe hi.pe hs, so_op so_dget ho.so hi.so⟩
theorem pdt_dnotIn (hu : X.A.units + 64 < cLine) (hi : PD X E i ti di) (ho : PD X E o to do_) (h1 : behindInMarks .NotIn o = false := by first | exact nobehind _ (by decide) (by decide) | rfl) : PDT X E (.Compare i [.NotIn] [o] pos) (tB (tOp (rDIn true) ti to)) (dTest (dOp (oDIn true) di do_)) := ⟨pt_cmp (pc_dnotin (by omega) hi.pe ho.pe) h1, so_tB (so_op so_din hi.so ho.so)⟩
end
/-- d[k] = v -/
def putDD : List Key → List D → Key → D → List Key × List D
  | k :: ks, d :: ds, q, z => if k = q then (k :: ks, z :: ds) else ((k :: (putDD ks ds q z).1), d :: (putDD ks ds q z).2)
  | _, _, q, z => ([q], [z])
theorem put_reps {K : PySem.W.Frag} {R : Addr → Prop} {η : Eta} {H : Hp} {q : Key} {v : V} {d : D} (r : Rep K R η H v d) : ∀ {kvs : List (Key × V)} {ds : List D}, (kvs.map (·.1)).Nodup → Reps K R η H (kvs.map (·.2)) ds →
    ((putK kvs q v).map (·.1)) = (putDD (kvs.map (·.1)) ds q d).1 ∧ Reps K R η H ((putK kvs q v).map (·.2)) (putDD (kvs.map (·.1)) ds q d).2 := by
  have nomap : ∀ (l : List (Key × V)), q ∉ l.map (·.1) → (l.map fun kv => if kv.1 = q then (kv.1, v) else kv) = l := fun l hl => by
    induction l with
    | nil => rfl
    | cons p l ih =>
      have h1 : ¬ p.1 = q := fun e => hl (by rw [List.map_cons, e]; exact List.mem_cons_self)
      rw [List.map_cons, if_neg h1, ih fun z => hl (by rw [List.map_cons]; exact List.mem_cons_of_mem _ z)]
  intro kvs
  induction kvs with
  | nil =>
    intro ds _ h
    cases h
    exact ⟨rfl, .cons r .nil⟩
  | cons p kvs ih =>
    intro ds nd h
    cases h with
    | @cons _ _ e es a b =>
      obtain ⟨nd1, nd2⟩ := List.nodup_cons.mp nd
      obtain ⟨k, u⟩ := p
      by_cases eq : k = q
      · subst eq
        have e1 : putK ((k, u) :: kvs) k v = (k, v) :: kvs := by
          unfold putK
          rw [if_pos (by simp)]
          rw [List.map_cons, nomap kvs nd1]; simp
        rw [e1]
        simp only [List.map_cons, putDD, if_true]
        exact ⟨trivial, .cons r b⟩
      · obtain ⟨h1, h2⟩ := ih nd2 b
        have e1 : putK ((k, u) :: kvs) q v = (k, u) :: putK kvs q v := by
          unfold putK
          have e2 : (((k, u) :: kvs).any fun kv => decide (kv.1 = q)) = kvs.any fun kv => decide (kv.1 = q) := by simp [eq]
          rw [e2]
          split
          · rw [List.map_cons, if_neg eq]
          · rfl
        rw [e1]
        simp only [List.map_cons, putDD, eq, if_false]
        exact ⟨by rw [h1], .cons a h2⟩
theorem look_mem {q : Key} {d : D} : ∀ {ks : List Key} {ds : List D}, lookK ks ds q = some d → d ∈ ds
  | [], _, h => by simp [lookK] at h
  | _ :: _, [], h => by simp [lookK] at h
  | k :: ks, e :: ds, h => by
    by_cases eq : k = q
    · simp [lookK, eq] at h; rw [h]; exact List.mem_cons_self
    · simp [lookK, eq] at h; exact List.mem_cons_of_mem _ (look_mem h)
end DL
end
section
set_option Elab.async false
set_option linter.all false
set_option autoImplicit false
set_option maxRecDepth 100000
set_option maxHeartbeats 4000000
namespace DL
open PySem PySem.Spec PyProof.Rows L2
section
variable {η : Eta} {d : D} {ks : List Key} {ds : List D} {k : Key}
theorem rd_dct (h : rd η d = .dct ks ds) : dctD η d = some (ks, ds) := by
  cases d with
  | dct a b => simp [rd] at h; simp [dctD, h.1, h.2]
  | ref p =>
    cases e : η p with
    | none => simp [rd, e] at h
    | some m =>
      cases m with
      | dct a b => simp [rd, e, mD] at h; simp [dctD, e, h.1, h.2]
      | _ => simp [rd, e, mD] at h
  | _ => simp [rd] at h
theorem rd_key (h : keyD (rd η d) = some k) : keyD d = some k := by
  cases d with
  | ref p =>
    cases e : η p with
    | none => simp [rd, e, keyD] at h
    | some m => cases m <;> simp [rd, e, mD, keyD] at h
  | _ => exact h
end
def gDGet : D → D → Option D
  | .dct ks ds, y => match keyD y with
    | some k => lookK ks ds k
    | none => none
  | _, _ => none
theorem impo_dget : ImpO2 oDGet (op2 gDGet) := imp_o2 fun η dx dy Φ z n1 n2 h => by
  unfold gDGet at h
  split at h
  · rename_i ks ds e
    split at h
    · rename_i k ek
      rw [e] at n1
      exact ⟨nrs_mem (by simpa [nr] using n1) (look_mem h), fun q => ⟨ks, ds, k, z, rd_dct e, rd_key ek, h, q⟩⟩
    · cases h
  · cases h
def gDGet1 : D → D → Option D
  | .dct ks ds, y => match keyD y with
    | some k => some ((lookK ks ds k).getD .non)
    | none => none
  | _, _ => none
/-- d.get(k), the key a plain value -/
def fDG1 (fo fe : FE) : FE := fun fs => (fo fs).bind fun v fs1 => match rsv fs1 v with
  | some (.dct _ _) => (fe fs1).bind fun w fs2 => op2 gDGet1 fs2 v w
  | _ => .bad
def gDIn (neg : Bool) : D → D → Option D
  | y, .dct ks ds => match keyD y with
    | some k => some (.bl (cond neg (!(lookK ks ds k).isSome) (lookK ks ds k).isSome))
    | none => none
  | _, _ => none
theorem impo_din {neg : Bool} : ImpO2 (oDIn neg) (op2 (gDIn neg)) := imp_o2 fun η dx dy Φ z n1 n2 h => by
  unfold gDIn at h
  split at h
  · rename_i ks ds e
    split at h
    · rename_i k ek
      cases h
      exact ⟨rfl, fun q => ⟨ks, ds, k, rd_dct e, rd_key ek, q⟩⟩
    · cases h
  · cases h
def gIsB (neg : Bool) : D → D → Option D
  | .bl a, .bl b => some (.bl (cond neg (!decide (a = b)) (decide (a = b))))
  | _, _ => none
def gRepT : D → D → Option D
  | .tup xs, .int k => if (decide (xs ≠ []) && decide (2 ≤ k) && decide (k ≤ 1000) && decide (xs.length ≤ 1000)) = true then some (.tup (List.replicate k.toNat xs).flatten) else none
  | _, _ => none
/-- {} -/
def fDNew : FE := fun fs => .ok (.f (.dct [] [])) fs
def keyOk : Key → Bool
  | .inl _ => true
  | .inr x => PyData.strOk x && decide (x.length ≤ 1000)
end DL
end
section
set_option Elab.async false
set_option linter.all false
set_option autoImplicit false
set_option maxRecDepth 100000
set_option maxHeartbeats 4000000
namespace DL
open PySem PySem.Spec PyProof.Rows L2
section
variable {P : Program} {w : World} {Ky : Type} [DecidableEq Ky] {knd : KeyKind P w Ky} {A : Around} {E : Value → Shared → Prop} {s : Shared} {a : Addr}
/-- no two entries of one key -/
def Dif (knd : KeyKind P w Ky) (l : List (Int × Value)) : Prop := l.Pairwise fun x y => ∀ k, ¬ (knd.is k x.2 = true ∧ knd.is k y.2 = true)
/-- what a table must be to be walked -/
structure Walk (w : World) (t : SetTable) : Prop where
  ris : Ris t.place.toList
  led : w.params.followText "set-order" = true ∨ t.led = true
def SetG (knd : KeyKind P w Ky) (h : Heap) (a : Addr) (S : Ky → Bool) (n : Nat) : Prop :=
  ∃ o es ep t, h.get? a = some o ∧ o.ExactSet ∧ o.data = .set es ep t ∧ ElemsOf knd es.toList ∧ (∀ k, S k = true ↔ ∃ e ∈ es.toList, knd.is k e.2 = true) ∧ (es.size < scanBound ∧ t.fits es.size = true ∧ es.size = n) ∧ Dif knd es.toList ∧ Walk w t
theorem SetG.at_ {h h' : Heap} {S : Ky → Bool} {n : Nat} (R : SetG knd h a S n) (k : ∀ o, h.get? a = some o → h'.get? a = some o) : SetG knd h' a S n :=
  have ⟨o, es, ep, t, h1, r⟩ := R
  ⟨o, es, ep, t, k o h1, r⟩
theorem stored {h : Heap} {o : Obj} {es fs : Array (Int × Value)} {ep : Nat} {t u : SetTable} (ho : h.get? a = some o) (hd : o.data = .set es ep t) : (h.update a (Obj.putSet fs u)).get? a = some { o with data := .set fs (ep + 1) u } := by
  have z := Heap.get?_update_self (Obj.putSet fs u) ho (by rw [putSet_of fs u hd]; rfl)
  rwa [putSet_of fs u hd] at z
end
end DL
end
section
set_option Elab.async false
set_option linter.all false
set_option autoImplicit false
set_option maxRecDepth 100000
set_option maxHeartbeats 4000000
namespace DL
open PySem PySem.Spec PyProof.Rows L2
end DL
end
section
set_option Elab.async false
set_option linter.all false
set_option autoImplicit false
set_option maxRecDepth 100000
set_option maxHeartbeats 4000000
namespace DL
open PySem PySem.Spec PyProof.Rows L2
def inK (acc : List Key) (k : Key) : Bool := acc.any fun j => decide (j = k)
def distR : List Key → Nat
  | [] => 0
  | k :: ks => if inK ks k = true then distR ks else distR ks + 1
/-- how many different keys -/
def distK (acc : List Key) : Nat := distR acc.reverse
def SetX (P : Program) (w : World) (h : Heap) (a : Addr) (acc : List Key) : Prop := SetG (mixKind P w) h a (inK acc) (distK acc)
theorem SetX.at_ {P : Program} {w : World} {h h' : Heap} {a : Addr} {acc : List Key} (R : SetX P w h a acc) (k : ∀ o, h.get? a = some o → h'.get? a = some o) : SetX P w h' a acc := SetG.at_ R k
theorem SetX.obj {P : Program} {w : World} {h : Heap} {a : Addr} {acc : List Key} (R : SetX P w h a acc) : ∃ o, h.get? a = some o := by
  have ⟨o, _, _, _, ho, _⟩ := R
  exact ⟨o, ho⟩
abbrev set0 (w : World) : Obj := { cls := .type "set", dict := none, data := .set #[] 0 (.fresh 0 0 (!w.params.followText "set-order")) }
theorem SetX.new (P : Program) (w : World) (h : Heap) : SetX P w (h.push (set0 w)) h.objs.size [] :=
  ⟨_, #[], 0, _, Heap.get?_push_size _ rfl, ⟨rfl, rfl, rfl⟩, rfl, fun e he => by simp at he, fun k => by simp [inK], ⟨by decide, by rfl, rfl⟩, List.Pairwise.nil, ⟨List.Pairwise.nil, by
    cases h : w.params.followText "set-order" with
    | true => exact .inl rfl
    | false => exact .inr rfl⟩⟩
def keysD (xs : List D) : List Key := xs.filterMap keyD
end DL
end
section
set_option Elab.async false
set_option linter.all false
set_option autoImplicit false
set_option maxRecDepth 100000
set_option maxHeartbeats 4000000
namespace DL
open PySem PySem.Spec PyProof.Rows L2
def fShort (fi : FI) : FI := fun fs => match fi fs with
  | .ok r fs1 => if r.1.length ≤ 1000 then .ok r fs1 else .bad
  | .ex x fs1 => .ex x fs1
  | .bad => .bad
def fKey (fe : FE) : FE := fun fs => (fe fs).bind fun v fs1 => match v with
  | .d x => if (keyD x).isSome = true then .ok (.d x) fs1 else .bad
  | _ => .bad
end DL
end
section
set_option Elab.async false
set_option linter.all false
set_option autoImplicit false
set_option maxRecDepth 100000
set_option maxHeartbeats 4000000
namespace DL
open PySem PySem.Spec PyProof.Rows L2
section
variable {X : Cx} {E : XK} {e : Expr} {es : List Expr} {te : TE} {tr : TA} {de : DE} {dr : DA}
def dStar (de : DE) (dr : DA) : DA := fun Z δ η Φ => de Z δ η fun x η1 => ∃ xs, x = .tup xs ∧ dr Z δ η1 fun ys η2 => Φ (xs ++ ys) η2
theorem pda_star {p : Pos} (he : PD X E e te de) (hr : PDA X E es tr dr) (hs : starEach (.Starred e p :: es) X.env = (true, eval e X.env) :: starEach es X.env := by rfl) : PDA X E (.Starred e p :: es) (StX.tStar X.K te tr) (dStar de dr) := ⟨StX.pa_star he.pe hr.pa hs, fun R σ H δ η Z Φ Q l s h k => by
  refine he.so R σ H δ η Z _ _ l s h (k.to fun v1 d1 H1 η1 l1 e1 r1 h1 => ?_)
  obtain ⟨xs, rfl, h1⟩ := h1
  obtain ⟨a, vs, rfl, sq, rs⟩ := r1.sqT
  refine ⟨a, vs, rfl, .inl sq, hr.so R σ H1 δ η1 Z _ _ l1 (s.up e1) h1 ((k.at_ e1).to fun v2 d2 H2 η2 l2 e2 r2 h2 => ?_)⟩
  exact k.ok _ _ H2 η2 l2 (e1.trans e2) ((rs.up e2).append r2) h2⟩
end
end DL
end
section
set_option Elab.async false
set_option linter.all false
set_option autoImplicit false
set_option maxRecDepth 100000
set_option maxHeartbeats 4000000
namespace DL
open PySem PySem.Spec PyProof.Rows L2
section
variable {da : DE} {fa : FE} {dr : DA} {fr : FA}
def fStar (fe : FE) (fr : FA) : FA := fun fs => (fe fs).bind fun v fs1 => match v with
  | .d (.tup xs) => (fr fs1).bind fun vs fs2 => .ok (xs.map .d ++ vs) fs2
  | _ => .bad
theorem vrs_app {B : Om} {fs : FS} {δ : DSt} {η : Eta} {vs : List FV} {ds : List D} (h : VRs B fs δ η vs ds) : ∀ {xs : List D}, (∀ x ∈ xs, nr x = true) → VRs B fs δ η (xs.map .d ++ vs) (xs ++ ds)
  | [], _ => h
  | x :: xs, hx => ⟨⟨rfl, hx x List.mem_cons_self⟩, vrs_app h fun y hy => hx y (List.mem_cons_of_mem _ hy)⟩
theorem imp_star (ha : ImpG VR da fa) (hr : ImpG VRs dr fr) : ImpG VRs (dStar da dr) (fStar fa fr) := fun B fs δ η Z Φ s h =>
  ha B fs δ η Z _ s (Post.bind h fun v fs1 d1 η1 s1 r1 h1 => by
    split at h1
    · rename_i xs
      obtain ⟨rfl, n⟩ := r1
      exact ⟨xs, rfl, hr B fs1 δ η1 Z _ s1 (Post.bind h1 fun vs fs2 ds2 η2 s2 rs h2 => h2 (xs ++ ds2) η2 s2 (vrs_app rs (fun y hy => nrs_mem n hy)))⟩
    · exact h1.elim)
end
end DL
end
section
set_option Elab.async false
set_option linter.all false
set_option autoImplicit false
set_option maxRecDepth 100000
set_option maxHeartbeats 4000000
namespace DL
open PySem PySem.Spec PyProof.Rows L2
end DL
end
section
set_option Elab.async false
set_option linter.all false
set_option autoImplicit false
set_option maxRecDepth 100000
set_option maxHeartbeats 4000000
namespace DL
open PySem PySem.Spec PyProof.Rows L2
end DL
end
section
set_option Elab.async false
set_option linter.all false
set_option autoImplicit false
set_option maxRecDepth 100000
set_option maxHeartbeats 4000000
namespace DL
open PySem PySem.Spec PyProof.Rows L2
end DL
end
section
set_option Elab.async false
set_option linter.all false
set_option autoImplicit false
set_option maxRecDepth 100000
set_option maxHeartbeats 4000000
namespace DL
open PySem PySem.Spec PyProof.Rows L2
end DL
end
section
set_option Elab.async false
set_option linter.all false
set_option autoImplicit false
set_option maxRecDepth 100000
set_option maxHeartbeats 4000000
namespace DL
open PySem PySem.Spec PyProof.Rows L2
end DL
end
section
set_option Elab.async false
set_option linter.all false
set_option autoImplicit false
set_option maxRecDepth 100000
set_option maxHeartbeats 4000000
namespace DL
open PySem PySem.Spec PyProof.Rows L2
end DL
end
section
set_option Elab.async false
set_option linter.all false
set_option autoImplicit false
set_option maxRecDepth 100000
set_option maxHeartbeats 4000000
namespace DL
open PySem PySem.Spec PyProof.Rows L2
end DL
end
section
set_option Elab.async false
set_option linter.all false
set_option autoImplicit false
set_option maxRecDepth 100000
set_option maxHeartbeats 4000000
namespace DL
open PySem PySem.Spec PyProof.Rows L2
end DL
end
section
set_option Elab.async false
set_option linter.all false
set_option autoImplicit false
set_option maxRecDepth 100000
set_option maxHeartbeats 4000000
namespace DL
open PySem PySem.Spec PyProof.Rows L2
end DL
end
section
set_option Elab.async false
set_option linter.all false
set_option autoImplicit false
set_option maxRecDepth 100000
set_option maxHeartbeats 4000000
namespace DL
open PySem PySem.Spec PyProof.Rows L2
def fLcM (fi : FI) (g : FG) (ft : FT) (fe : FE) (vs : List Nat) : FE := fun fs => (fLc fi g ft fe vs fs).bind fun v fs1 => match v with
  | .d (.lst xs) => .ok (.f (.lst xs)) fs1
  | _ => .bad
end DL
end
section
set_option Elab.async false
set_option linter.all false
set_option autoImplicit false
set_option maxRecDepth 100000
set_option maxHeartbeats 4000000
namespace ZM
open PySem PySem.Spec PyProof.Rows L2
/-- what gives one item after the other -/
structure Feed (P : Program) (w : World) (it l : Addr) (xs : Array Value) where
  pt : Nat → Heap → Prop
  all : Heap → Prop
  up1 : ∀ {k : Nat} {h g : Heap}, pt k h → (∀ o, h.get? it = some o → g.get? it = some o) → pt k g
  up2 : ∀ {h g : Heap}, all h → (∀ o, h.get? l = some o → g.get? l = some o) → all g
  obj : ∀ {k : Nat} {h : Heap}, pt k h → ∃ o, h.get? it = some o ∧ ∃ a, o.data = .fields a
  go : ∀ {A : Around} {E Q : Value → Shared → Prop} {s : Shared} {k : Nat} {x : Value}, pt k s.heap ∧ all s.heap → xs[k]? = some x → (∀ g, pt (k + 1) g ∧ all g → Heap.SameBut it s.heap g → Q x { s with heap := g }) → wpAny (model P w) A (Builtin.SmallTypes.nextOf (.ref it)) Q E s
  stop : ∀ {A : Around} {E Q : Value → Shared → Prop} {s : Shared} {k : Nat}, A.handled = none → pt k s.heap ∧ all s.heap → xs[k]? = none →
    (∀ g e, Heap.ExtBut it s.heap g → (∃ o, g.get? e = some o ∧ o.cls = .type "StopIteration") → E (.ref e) { s with heap := g }) → wpAny (model P w) A (Builtin.SmallTypes.nextOf (.ref it)) Q E s
def Feed.on {P : Program} {w : World} {it l : Addr} {xs : Array Value} (F : Feed P w it l xs) (k : Nat) (h : Heap) : Prop := F.pt k h ∧ F.all h
section
variable {P : Program} {w : World} {A : Around} {E : Value → Shared → Prop} {s : Shared} {z TI TO i j l m : Addr} {xs ys : Array Value} {k n : Nat} {a b : Value}
/-- the pair's tuple -/
abbrev cell (x y : Value) : Obj := { cls := .type "tuple", data := .seq #[x, y] }
end
end ZM
end
section
set_option Elab.async false
set_option linter.all false
set_option autoImplicit false
set_option maxRecDepth 100000
set_option maxHeartbeats 4000000
namespace DL
open PySem PySem.Spec PyProof.Rows L2
end DL
end
section
set_option Elab.async false
set_option linter.all false
set_option autoImplicit false
set_option maxRecDepth 100000
set_option maxHeartbeats 4000000
namespace DL
open PySem PySem.Spec PyProof.Rows L2
section
variable {dr : DA} {fr : FA}
def fIZM (fr : FA) : FI := fun fs => (fr fs).bind fun vs fs1 => match vs with
  | [.d (.tup xs), .d (.lst ys)] => .ok (pairs xs ys, none) fs1
  | [.d (.tup xs), .s k] => match slotM fs1 k with
    | some (.lst ys) => .ok (pairs xs ys, some (k, .lst ys)) fs1
    | _ => .bad
  | _ => .bad
end
end DL
end
section
set_option Elab.async false
set_option linter.all false
set_option autoImplicit false
set_option maxRecDepth 100000
set_option maxHeartbeats 4000000
namespace DL
open PySem PySem.Spec PyProof.Rows L2
section
variable {X : Cx} {E : XK} {pos : Pos}
variable {o e : Expr} {es : List Expr} {to te : TE} {ta : TA} {do_ de : DE} {da : DA} {name : Str} {apos : Pos} {id : String}
def dMA (m : DMt) (do_ : DE) (da : DA) : DE := fun Z δ η Φ => do_ Z δ η fun x η1 => (∃ z, x = .str z) ∧ da Z δ η1 fun ds η2 => m x ds η2 Φ
theorem pd_mA {r : V → List V → Hp → VK → Prop} {m : DMt} (slot : Slot "str" name id) (ty : typeOf (.builtin id) = pure (.type "method_descriptor")) (rule : MtD X id r m) (ho : PD X E o to do_) (ha : PDA X E (e :: es) ta da)
    (hbase : attributeBase o name X.env (eval o X.env) = eval o X.env := by rfl)
    (hfew : ((backTo pos (starEach (e :: es) X.env)).all (fun x => !x.1) && (backToKw pos (keywordEach [] X.env)).all (fun x => x.1.isSome)
      && decide ((e :: es).length + ([] : List Keyword).length + (if ([] : List Keyword).isEmpty then 0 else 1) < 30)) = true := by rfl)
    (hline : (apos.endLine == pos.line) = true := by rfl) (hs : starEach (e :: es) X.env = (false, eval e X.env) :: starEach es X.env := by rfl) (hplain : (backTo pos (starEach es X.env)).any (·.1) = false := by rfl) :
    PD X E (.Call (.Attribute o name apos) (e :: es) [] pos) (tBM X.K "str" r to ta) (dMA m do_ da) := ⟨pe_bm PySem.F.plainAttrs_str slot ty rule.op ho.pe ha.pa hbase hfew hline hs hplain, fun R σ H δ η Z Φ Q l s h k => by
  refine ho.so R σ H δ η Z _ _ l s h (k.to fun v1 d1 H1 η1 l1 e1 r1 h1 => ?_)
  obtain ⟨⟨z, rfl⟩, h1⟩ := h1
  cases r1 with
  | str hz =>
    refine ⟨rfl, ?_⟩
    refine ha.so R σ H1 δ η1 Z _ _ l1 (s.up e1) h1 ((k.at_ e1).to fun vs ds H2 η2 l2 e2 r2 h2 => ?_)
    exact rule.so R η2 H2 _ vs _ ds Φ Q l2 (.str hz) r2 h2 fun v d H' η' l' e' r' h' => k.ok v d H' η' l' ((e1.trans e2).trans e') r' h'⟩
def oStrI : DCl := fun ds η Φ => match ds with
  | [.int i] => i.natAbs.log2 < 1920 ∧ SOk (toString i) ∧ Φ (.str (toString i)) η
  | [.str a] => Φ (.str a) η
  | _ => False
def rStrI : RCl := fun xs H Q => (∃ i, xs = [.int i] ∧ i.natAbs.log2 < 1920 ∧ Q (.str (toString i)) H) ∨ ∃ a, xs = [.str a] ∧ Q (.str a) H
theorem call_strI : CallR X (.type "str") rStrI := fun pins s σ H xs us Q I r h => by
  rcases h with h | h
  · exact call_str_int pins s σ H xs us Q I r h
  · exact SkE.call_str_str pins s σ H xs us Q I r h
theorem cl_strI : ClD X (.type "str") rStrI oStrI := ⟨call_strI, fun R η H xs ds Φ Q l r h k => by
  unfold oStrI at h
  split at h
  · cases r with
    | cons r1 r2 => cases r1; cases r2; exact .inl ⟨_, rfl, h.1, k _ _ H η l (Ext.refl _ _) (.str h.2.1) h.2.2⟩
  · cases r with
    | cons r1 r2 => cases r1 with | str hz => cases r2; exact .inr ⟨_, rfl, k _ _ H η l (Ext.refl _ _) (.str hz) h⟩
  · exact h.elim⟩
def oIntS : DCl := fun ds η Φ => match ds with
  | [.str a] => ∃ n, PySem.intText? a = some n ∧ a.length ≤ 640 ∧ Φ (.int n) η
  | _ => False
theorem cl_intS : ClD X (.type "int") (fun xs H Q => ∃ a n, xs = [.str a] ∧ PySem.intText? a = some n ∧ a.length ≤ 640 ∧ Q (.int n) H) oIntS := ⟨call_int_str, fun R η H xs ds Φ Q l r h k => by
  unfold oIntS at h
  split at h
  · cases r with
    | cons r1 r2 =>
      cases r1; cases r2
      obtain ⟨n, h1, h2, h⟩ := h
      exact ⟨_, n, rfl, h1, h2, k _ _ H η l (Ext.refl _ _) (.int _) h⟩
  · exact h.elim⟩
def dFmt (de : DE) : DE := fun Z δ η Φ => de Z δ η fun x η1 => match x with
  | .str y => Φ (.str y) η1
  | .int i => i.natAbs.log2 < 1920 ∧ SOk (toString i) ∧ Φ (.str (toString i)) η1
  | _ => False
theorem pd_fmt (he : PD X E e te de) : PD X E (.FormattedValue e (-1) none pos) (tFmt te) (dFmt de) := ⟨pe_fmt he.pe, fun R σ H δ η Z Φ Q l s h k => by
  refine he.so R σ H δ η Z _ _ l s h (k.to fun v1 d1 H1 η1 l1 e1 r1 h1 => ?_)
  split at h1
  · cases r1 with
    | str hz => exact .inl ⟨_, rfl, hz.len, k.ok _ _ H1 η1 l1 e1 (.str hz) h1⟩
  · cases r1
    exact .inr ⟨_, rfl, h1.1, k.ok _ _ H1 η1 l1 e1 (.str h1.2.1) h1.2.2⟩
  · exact h1.elim⟩
def dJs : List DE → Str → Xk → DSt → Eta → (Str → Eta → Prop) → Prop
  | [], acc => fun _ _ η Φ => Φ acc η
  | t :: ts, acc => fun Z δ η Φ => t Z δ η fun x η1 => ∃ y : Str, x = .str y ∧ (acc ++ y).length ≤ sizeLine ∧ dJs ts (acc ++ y) Z δ η1 Φ
inductive PDJ (X : Cx) (E : XK) : List Expr → List TE → List DE → Prop where
  | nil : PDJ X E [] [] []
  | cons {e : Expr} {t : TE} {d : DE} {es : List Expr} {ts : List TE} {ds : List DE} (h : PD X E e t d) (r : PDJ X E es ts ds) : PDJ X E (e :: es) (t :: ts) (d :: ds)
theorem PDJ.pj {es : List Expr} {ts : List TE} {ds : List DE} (h : PDJ X E es ts ds) : PJ X es ts := by
  induction h with
  | nil => exact .nil
  | cons h r ih => exact .cons h.pe ih
theorem sok_app {a b : Str} (ha : SOk a) (hb : SOk b) (hl : (a ++ b).length ≤ sizeLine) : SOk (a ++ b) := ⟨by
  have h1 := ha.cp
  have h2 := hb.cp
  show PyData.strOk ⟨a.cps ++ b.cps⟩ = true
  unfold PyData.strOk at *
  rw [Array.all_append, h1, h2]; rfl, hl⟩
theorem js_so {es : List Expr} {ts : List TE} {ds : List DE} (h : PDJ X E es ts ds) : ∀ (acc : Str), SOk acc → ∀ (R : Addr → Prop) (σ : L2.St) (H : Hp) (δ : DSt) (η : Eta) (Z : Xk) (Φ : Str → Eta → Prop) (Q : Str → Hp → Prop), Lk X.K R η H → Sl X.K R η H δ σ → dJs ds acc Z δ η Φ →
    Kn X.K R E η H Z (fun _ _ _ (a b : Str) => a = b ∧ SOk a) Φ Q → tJs ts acc σ H Q := by
  induction h with
  | nil => exact fun acc ha R σ H δ η Z Φ Q l s h k => k.ok acc acc H η l (Ext.refl _ _) ⟨rfl, ha⟩ h
  | cons h r ih =>
    intro acc ha R σ H δ η Z Φ Q l s hh k
    refine h.so R σ H δ η Z _ _ l s hh (k.to fun v1 d1 H1 η1 l1 e1 r1 h1 => ?_)
    obtain ⟨y, rfl, hy, h1⟩ := h1
    cases r1 with
    | str hz => exact ⟨y, rfl, hy, ih (acc ++ y) (sok_app ha hz hy) R σ H1 δ η1 Z Φ Q l1 (s.up e1) h1 (k.at_ e1)⟩
def dJ (ds : List DE) : DE := fun Z δ η Φ => dJs ds Str.empty Z δ η fun out η1 => Φ (.str out) η1
theorem pd_joined {v1 v2 : Expr} {rest : List Expr} {ts : List TE} {ds : List DE} (h : PDJ X E (v1 :: v2 :: rest) ts ds) : PD X E (.JoinedStr (v1 :: v2 :: rest) pos) (fun σ H Q => tJs ts Str.empty σ H fun out H1 => Q (.str out) H1) (dJ ds) := ⟨pe_joined h.pj, fun R σ H δ η Z Φ Q l s hw k => by
  refine js_so h Str.empty ⟨by decide +kernel, by decide +kernel⟩ R σ H δ η Z _ _ l s hw (k.to fun a b H1 η1 l1 e1 r1 h1 => ?_)
  obtain ⟨rfl, ha⟩ := r1
  exact k.ok _ _ H1 η1 l1 e1 (.str ha) h1⟩
end
end DL
end
section
set_option Elab.async false
set_option linter.all false
set_option autoImplicit false
set_option maxRecDepth 100000
set_option maxHeartbeats 4000000
namespace DL
open PySem PySem.Spec PyProof.Rows L2
def sFldAug (cs : List Addr) (f : Str) (g : Int → Int → Int) (fo fe : FE) : FSt := fun fs => (fo fs).thn fun v fs1 => match v with
  | .s k => match fs1[k]? with
    | some (some (.m _ (.ins C ns es))) => if cs.contains C = true then match lkp ns es f with
      | some (.int i) => (fe fs1).thn fun y fs2 => match y with
        | .d (.int j) => match fs2[k]? with
          | some (some (.m pr (.ins C' ns' es'))) => if C' = C ∧ ns'.length < 1000 then .nx (fs2.set k (some (.m pr (.ins C (putN ns' f) (putD ns' es' f (.int (g i j))))))) else .bad
          | _ => .bad
        | _ => .bad
      | _ => .bad
      else .bad
    | _ => .bad
  | _ => .bad
def fMA (g : Str → List D → Option D) (fo : FE) (fr : FA) : FE := fun fs => (fo fs).bind fun v fs1 => match v with
  | .d (.str z) => (fr fs1).bind fun vs fs2 => match rsvs fs2 vs with
    | some as => match g z as with
      | some r => .ok (.d r) fs2
      | none => .bad
    | none => .bad
  | _ => .bad
def ImpMA (o : DMt) (g : Str → List D → Option D) : Prop := ∀ η z ds Φ r, nrs (ds.map (rd η)) = true → g z (ds.map (rd η)) = some r → nr r = true ∧ (Φ r η → o (.str z) ds η Φ)
theorem imp_mA {o : DMt} {g : Str → List D → Option D} {do_ : DE} {fo : FE} {dr : DA} {fr : FA} (hm : ImpMA o g) (ho : ImpG VR do_ fo) (hr : ImpG VRs dr fr) : ImpG VR (dMA o do_ dr) (fMA g fo fr) := fun B fs δ η Z Φ s h => ho B fs δ η Z _ s (Post.bind h fun v fs1 d1 η1 s1 r1 h1 => by
  split at h1
  · rename_i z
    obtain ⟨rfl, -⟩ := r1
    refine ⟨⟨z, rfl⟩, hr B fs1 δ η1 Z _ s1 (Post.bind h1 fun vs fs2 ds2 η2 s2 r2 h2 => ?_)⟩
    split at h2
    · rename_i as ea
      obtain ⟨q1, q2⟩ := r2.rds s2 ea
      split at h2
      · rename_i r er
        subst q1
        obtain ⟨n, k⟩ := hm η2 z ds2 Φ r q2 er
        exact k (h2 r η2 s2 ⟨rfl, n⟩)
      · exact h2.elim
    · exact h2.elim
  · exact h1.elim)
def gSw3 (a : Str) : List D → Option D
  | [.str b, .int i] => some (.bl (Txt.startswith3 a b i))
  | _ => none
theorem strOk_of (s : String) : PyData.strOk (Str.ofString s) = true := by
  rw [Str.ofString_eq_toList]
  unfold PyData.strOk
  rw [Array.all_eq_true']
  intro c hc
  simp only [List.mem_toArray, List.mem_map] at hc
  obtain ⟨ch, -, rfl⟩ := hc
  have := ch.valid
  rw [decide_eq_true_eq]
  rcases this with h | ⟨-, h⟩
  · exact Nat.lt_trans h (by decide)
  · exact h
theorem log2_9 {i : Int} (h1 : -1000000000 < i) (h2 : i < 1000000000) : i.natAbs.log2 < 1920 := by
  by_cases h0 : i.natAbs = 0
  · rw [h0]; decide
  · exact Nat.lt_of_lt_of_le ((Nat.log2_lt h0).mpr (show i.natAbs < 2 ^ 30 by omega)) (by decide)
theorem sok_int {i : Int} (h1 : -1000000000 < i) (h2 : i < 1000000000) : i.natAbs.log2 < 1920 ∧ SOk (toString i) := ⟨log2_9 h1 h2, strOk_of _, int_text_fits (log2_9 h1 h2)⟩
def gStrI : List D → Option D
  | [.int i] => if (decide (-1000000000 < i) && decide (i < 1000000000)) = true then some (.str (toString i)) else none
  | [.str a] => some (.str a)
  | _ => none
theorem impn_strI : ImpOn oStrI (opn gStrI) := imp_on fun η ds Φ z n h => by
  unfold gStrI at h
  split at h
  · rename_i i e
    split at h
    · rename_i c
      rw [Bool.and_eq_true, decide_eq_true_eq, decide_eq_true_eq] at c
      cases h
      obtain ⟨x, rfl, q⟩ := map_one e
      refine ⟨rfl, fun k => ?_⟩
      rw [rd_int q]
      obtain ⟨q1, q2⟩ := sok_int c.1 c.2
      exact ⟨q1, q2, k⟩
    · cases h
  · rename_i a e
    cases h
    obtain ⟨x, rfl, q⟩ := map_one e
    exact ⟨rfl, fun k => by rw [rd_str q]; exact k⟩
  · cases h
def gIntS : List D → Option D
  | [.str a] => if a.length ≤ 640 then (PySem.intText? a).map D.int else none
  | _ => none
theorem impn_intS : ImpOn oIntS (opn gIntS) := imp_on fun η ds Φ z n h => by
  unfold gIntS at h
  split at h
  · rename_i a e
    split at h
    · rename_i c
      cases q : PySem.intText? a with
      | none => rw [q] at h; cases h
      | some i =>
        rw [q] at h
        cases h
        obtain ⟨x, rfl, q2⟩ := map_one e
        refine ⟨rfl, fun k => ?_⟩
        rw [rd_str q2]
        exact ⟨i, q, c, k⟩
    · cases h
  · cases h
def fFmt (fe : FE) : FE := fun fs => (fe fs).bind fun v fs1 => match v with
  | .d (.str y) => .ok (.d (.str y)) fs1
  | .d (.int i) => if (decide (-1000000000 < i) && decide (i < 1000000000)) = true then .ok (.d (.str (toString i))) fs1 else .bad
  | _ => .bad
theorem imp_fmt {de : DE} {fe : FE} (he : ImpG VR de fe) : ImpG VR (dFmt de) (fFmt fe) := fun B fs δ η Z Φ s h => he B fs δ η Z _ s (Post.bind h fun v fs1 d1 η1 s1 r1 h1 => by
  split at h1
  · rename_i y
    obtain ⟨rfl, n⟩ := r1
    exact h1 _ η1 s1 ⟨rfl, rfl⟩
  · rename_i i
    obtain ⟨rfl, n⟩ := r1
    split at h1
    · rename_i c
      rw [Bool.and_eq_true, decide_eq_true_eq, decide_eq_true_eq] at c
      obtain ⟨q1, q2⟩ := sok_int c.1 c.2
      exact ⟨q1, q2, h1 _ η1 s1 ⟨rfl, rfl⟩⟩
    · exact h1.elim
  · exact h1.elim)
def fJs : List FE → Str → FS → Rs Str
  | [], acc => fun fs => .ok acc fs
  | t :: ts, acc => fun fs => (t fs).bind fun v fs1 => match v with
    | .d (.str y) => if (acc ++ y).length ≤ most then fJs ts (acc ++ y) fs1 else .bad
    | _ => .bad
inductive ImpJs : List DE → List FE → Prop where
  | nil : ImpJs [] []
  | cons {d : DE} {f : FE} {ds : List DE} {fs : List FE} (h : ImpG VR d f) (r : ImpJs ds fs) : ImpJs (d :: ds) (f :: fs)
theorem imp_js {ds : List DE} {ts : List FE} (h : ImpJs ds ts) : ∀ acc : Str, ImpG (fun _ _ _ _ (a b : Str) => a = b) (dJs ds acc) (fJs ts acc) := by
  induction h with
  | nil => exact fun acc B fs δ η Z Φ s h => h acc η s rfl
  | cons hd r ih =>
    intro acc B fs δ η Z Φ s h
    refine hd B fs δ η Z _ s (Post.bind h fun v fs1 d1 η1 s1 r1 h1 => ?_)
    split at h1
    · rename_i y
      obtain ⟨rfl, -⟩ := r1
      split at h1
      · rename_i hl
        exact ⟨y, rfl, Nat.le_trans hl (by decide), ih (acc ++ y) B fs1 δ η1 Z Φ s1 h1⟩
      · exact h1.elim
    · exact h1.elim
def fJ (ts : List FE) : FE := fun fs => (fJs ts Str.empty fs).bind fun out fs1 => .ok (.d (.str out)) fs1
theorem imp_j {ds : List DE} {ts : List FE} (h : ImpJs ds ts) : ImpG VR (dJ ds) (fJ ts) := fun B fs δ η Z Φ s hw => imp_js h Str.empty B fs δ η Z _ s (Post.bind hw fun a fs1 d1 η1 s1 r1 h1 => by
  obtain rfl : a = d1 := r1
  exact h1 _ η1 s1 ⟨rfl, rfl⟩)
end DL
end
section
set_option Elab.async false
set_option linter.all false
set_option autoImplicit false
set_option maxRecDepth 100000
set_option maxHeartbeats 4000000
namespace DL
open PySem PySem.Spec PyProof.Rows L2
/-- the pairs, put one after the other -/
def dctS (a : List Key × List D) : D → List Key × List D
  | .tup [y, z] => match keyD y with
    | some k => putDD a.1 a.2 k z
    | none => a
  | _ => a
def dctF (ps : List D) (a : List Key × List D) : List Key × List D := ps.foldl dctS a
theorem putDD_nd {q : Key} {z : D} : ∀ {ks : List Key} {ds : List D}, ks.length = ds.length → ks.Nodup → (putDD ks ds q z).1.Nodup ∧ (putDD ks ds q z).1.length = (putDD ks ds q z).2.length ∧ (∀ k ∈ (putDD ks ds q z).1, k = q ∨ k ∈ ks) ∧ (putDD ks ds q z).1.length ≤ ks.length + 1
  | [], [], _, _ => by simp [putDD]
  | k :: ks, d :: ds, hl, nd => by
    obtain ⟨n1, n2⟩ := List.nodup_cons.mp nd
    by_cases e : k = q
    · simp only [putDD, if_pos e]
      exact ⟨nd, by simpa using hl, fun k' h => .inr h, by simp⟩
    · obtain ⟨h1, h2, h3, h4⟩ := putDD_nd (q := q) (z := z) (by simpa using hl) n2
      simp only [putDD, if_neg e]
      refine ⟨List.nodup_cons.mpr ⟨fun hm => ?_, h1⟩, by simpa using h2, fun k' h => ?_, by simp only [List.length_cons]; omega⟩
      · rcases h3 k hm with z | z
        · exact e z
        · exact n1 z
      · rcases List.mem_cons.mp h with rfl | h
        · exact .inr List.mem_cons_self
        · rcases h3 k' h with z | z
          · exact .inl z
          · exact .inr (List.mem_cons_of_mem _ z)
theorem reps_len2 {K : PySem.W.Frag} {R : Addr → Prop} {η : Eta} {H : Hp} {kvs : List (Key × V)} {ds : List D} (r : Reps K R η H (kvs.map (·.2)) ds) : (kvs.map (·.1)).length = ds.length := by
  have := r.length
  simpa using this
/-- key and value of an item -/
def dPair (dk dv : DE) : DE := fun Z δ η Φ => dk Z δ η fun y η1 => dv Z δ η1 fun z η2 => ∃ k, keyD y = some k ∧ Φ (.tup [y, z]) η2
/-- what comes out is locked for good -/
def tFz (t : TE) : TE := fun σ H Q => t σ H fun v H' => ∃ d u, H' d = some u ∧ Mut (some u) ∧ ∀ od, Q v (upd H' d (.frz od u))
theorem pe_fz {X : Cx} {e : Expr} {t : TE} (h : PE X e t) : PE X e (tFz t) := ⟨fun pins s σ H Q I hw => thn (h.run pins s σ H _ I hw) fun v s1 ⟨x, H1, I1, r, d, u, hd, mu, q⟩ => by
  obtain ⟨od, I2⟩ := I1.lock hd mu
  exact ⟨x, _, I2, r, q od⟩⟩
end DL
end
section
set_option Elab.async false
set_option linter.all false
set_option autoImplicit false
set_option maxRecDepth 100000
set_option maxHeartbeats 4000000
namespace DL
open PySem PySem.Spec PyProof.Rows L2
end DL
end
section
set_option Elab.async false
set_option linter.all false
set_option autoImplicit false
set_option maxRecDepth 100000
set_option maxHeartbeats 4000000
namespace DL
open PySem PySem.Spec PyProof.Rows L2
end DL
end
section
set_option Elab.async false
set_option linter.all false
set_option autoImplicit false
set_option maxRecDepth 100000
set_option maxHeartbeats 4000000
namespace DL
open PySem PySem.Spec PyProof.Rows L2
def fPair (fk fv : FE) : FE := fun fs => (fk fs).bind fun y fs1 => (fv fs1).bind fun z fs2 => match y, z with
  | .d a, .d b => if (keyD a).isSome = true then .ok (.d (.tup [a, b])) fs2 else .bad
  | _, _ => .bad
section
variable {dk dv de do_ df : DE} {fk fv fe fo ff : FE} {i w : Nat} {vs ws : List Nat} {di : DI} {fi : FI} {dg : DG} {g : FG} {dt : DT} {ft : FT} {da : DA} {fa : FA}
theorem imp_pair (hk : ImpG VR dk fk) (hv : ImpG VR dv fv) : ImpG VR (dPair dk dv) (fPair fk fv) := fun B fs δ η Z Φ s h =>
  hk B fs δ η Z _ s (Post.bind h fun y fs1 d1 η1 s1 r1 h1 => hv B fs1 δ η1 Z _ s1 (Post.bind h1 fun z fs2 d2 η2 s2 r2 h2 => by
    split at h2
    · rename_i a b
      split at h2
      · rename_i hq
        obtain ⟨rfl, n1⟩ := r1
        obtain ⟨rfl, n2⟩ := r2
        obtain ⟨k, ek⟩ := Option.isSome_iff_exists.mp hq
        exact ⟨k, ek, h2 _ η2 s2 ⟨rfl, by simp [nr, nrs, n1, n2]⟩⟩
      · exact h2.elim
    · exact h2.elim))
theorem nrs_putDD {q : Key} {z : D} (nz : nr z = true) : ∀ {ks : List Key} {ds : List D}, nrs ds = true → nrs (putDD ks ds q z).2 = true
  | [], [], _ => by simp [putDD, nrs, nz]
  | [], _ :: _, _ => by simp [putDD, nrs, nz]
  | _ :: _, [], _ => by simp [putDD, nrs, nz]
  | k :: ks, d :: ds, h => by
    simp only [nrs, Bool.and_eq_true] at h
    by_cases e : k = q
    · simp [putDD, e, nrs, nz, h.2]
    · simp [putDD, e, nrs, h.1, nrs_putDD nz h.2]
theorem nrs_dctS {a : List Key × List D} {d : D} (h : nrs a.2 = true) (n : nr d = true) : nrs (dctS a d).2 = true := by
  unfold dctS
  split
  · rename_i y z
    split
    · have : nr z = true := by simp [nr, nrs] at n; exact n.2
      exact nrs_putDD this h
    · exact h
  · exact h
theorem nrs_dctF : ∀ {ps : List D} {a : List Key × List D}, nrs ps = true → nrs a.2 = true → nrs (dctF ps a).2 = true
  | [], _, _, h => h
  | p :: ps, a, n, h => by
    simp only [nrs, Bool.and_eq_true] at n
    exact nrs_dctF (ps := ps) n.2 (nrs_dctS h n.1)
def fExt (fo : FE) (fr : FA) : FE := fun fs => (fo fs).bind fun v fs1 => if isLs fs1 v = true then (fr fs1).bind fun vs fs2 => match v, vs with
  | .s k, [.d (.lst ys)] => match fs2[k]? with
    | some (some (.m pr (.lst xs))) => if xs.length + ys.length < most then .ok (.d .non) (fs2.set k (some (.m pr (.lst (xs ++ ys))))) else .bad
    | _ => .bad
  | _, _ => .bad else .bad
def fDG3 (fo fe ff : FE) : FE := fun fs => (fo fs).bind fun v fs1 => match v with
  | .d (.dct ks ds) => (fe fs1).bind fun y fs2 => (ff fs2).bind fun z fs3 => match y, z with
    | .d a, .d b => match keyD a with
      | some k => .ok (.d ((lookK ks ds k).getD b)) fs3
      | none => .bad
    | _, _ => .bad
  | _ => .bad
end
end DL
end
section
set_option Elab.async false
set_option linter.all false
set_option autoImplicit false
set_option maxRecDepth 100000
set_option maxHeartbeats 4000000
namespace DL
open PySem PySem.Spec PyProof.Rows L2
end DL
end
section
set_option Elab.async false
set_option linter.all false
set_option autoImplicit false
set_option maxRecDepth 100000
set_option maxHeartbeats 4000000
namespace DL
open PySem PySem.Spec PyProof.Rows L2
def fIK (fe : FE) : FI := fun fs => (fe fs).bind fun v fs1 => match v with
  | .d (.dct ks _) => if ks.all keyOk = true then .ok (ks.map kD, none) fs1 else .bad
  | _ => .bad
end DL
end
section
set_option Elab.async false
set_option linter.all false
set_option autoImplicit false
set_option maxRecDepth 100000
set_option maxHeartbeats 4000000
namespace DL
open PySem PySem.Spec PyProof.Rows L2
def dPairs : List (DE × DE) → Xk → DSt → Eta → (List D → Eta → Prop) → Prop
  | [], _, _, η, Q => Q [] η
  | (dk, dv) :: r, Z, δ, η, Q => dk Z δ η fun y η1 => dv Z δ η1 fun z η2 => ∃ k, keyD y = some k ∧ dPairs r Z δ η2 fun ps η3 => Q (.tup [y, z] :: ps) η3
/-- a display: the dict never changes -/
def dDisp (prs : List (DE × DE)) : DE := fun Z δ η Φ => dPairs prs Z δ η fun ps η1 => ps.length ≤ 15 ∧ Φ (.dct (dctF ps ([], [])).1 (dctF ps ([], [])).2) η1
inductive PDPs (X : Cx) (E : XK) (pos : Pos) : List (Option Expr) → List Expr → List (TE × TE) → List (DE × DE) → Prop
  | nil : PDPs X E pos [] [] [] []
  | cons {k v : Expr} {ks : List (Option Expr)} {vs : List Expr} {tk tv : TE} {dk dv : DE} {trs : List (TE × TE)} {drs : List (DE × DE)} : PD X E k tk dk → PD X E v tv dv → PDPs X E pos ks vs trs drs → PDPs X E pos (some k :: ks) (v :: vs) ((tk, tv) :: trs) ((dk, dv) :: drs)
theorem PDPs.pps {X : Cx} {E : XK} {pos : Pos} {ks : List (Option Expr)} {vs : List Expr} {trs : List (TE × TE)} {drs : List (DE × DE)} (h : PDPs X E pos ks vs trs drs) : PPs X pos ks vs trs := by
  induction h with
  | nil => exact pps_nil
  | cons a b _ ih => exact pps_cons a.pe b.pe ih
/-- the pairs as values and as data -/
inductive PRep (K : PySem.W.Frag) (R : Addr → Prop) (η : Eta) (H : Hp) : List (V × V) → List (Key × V) → List D → Prop
  | nil : PRep K R η H [] [] []
  | cons {x y : V} {k : Key} {dx dy : D} {ps : List (V × V)} {kvs : List (Key × V)} {ds : List D} : x = kV k → keyD dx = some k → Rep K R η H y dy → PRep K R η H ps kvs ds → PRep K R η H ((x, y) :: ps) ((k, y) :: kvs) (.tup [dx, dy] :: ds)
theorem PRep.eq {K : PySem.W.Frag} {R : Addr → Prop} {η : Eta} {H : Hp} {ps : List (V × V)} {kvs : List (Key × V)} {ds : List D} (h : PRep K R η H ps kvs ds) : ps = kvs.map (fun kv => (kV kv.1, kv.2)) ∧ kvs.length = ds.length := by
  induction h with
  | nil => exact ⟨rfl, rfl⟩
  | cons e _ _ _ ih => exact ⟨by rw [List.map_cons, ← ih.1, e], by rw [List.length_cons, List.length_cons, ih.2]⟩
theorem PRep.put {K : PySem.W.Frag} {R : Addr → Prop} {η : Eta} {H : Hp} {ps : List (V × V)} {kvs : List (Key × V)} {ds : List D} (h : PRep K R η H ps kvs ds) : ∀ {acc : List (Key × V)} {a : List Key × List D}, acc.map (·.1) = a.1 → Reps K R η H (acc.map (·.2)) a.2 → (acc.map (·.1)).Nodup →
    (mergeK acc kvs).map (·.1) = (dctF ds a).1 ∧ Reps K R η H ((mergeK acc kvs).map (·.2)) (dctF ds a).2 := by
  induction h with
  | nil => exact fun h1 h2 _ => ⟨h1, h2⟩
  | @cons x y k dx dy ps kvs ds e ek ry _ ih =>
    intro acc a h1 h2 nd
    have step : dctS a (.tup [dx, dy]) = putDD a.1 a.2 k dy := by
      show (match keyD dx with
        | some k => putDD a.1 a.2 k dy
        | none => a) = _
      rw [ek]
    obtain ⟨g1, g2⟩ := put_reps (q := k) ry nd h2
    have n := putDD_nd (q := k) (z := dy) (reps_len2 h2) nd
    have := ih (acc := putK acc k y) (a := dctS a (.tup [dx, dy])) (by rw [step, g1, h1]) (by rw [step, ← h1]; exact g2) (by rw [g1]; exact n.1)
    exact this
section
variable {X : Cx} {E : XK} {pos : Pos} {ks : List (Option Expr)} {vs : List Expr} {trs : List (TE × TE)} {drs : List (DE × DE)}
theorem PDPs.so (h : PDPs X E pos ks vs trs drs) : ∀ (R : Addr → Prop) (σ : L2.St) (H : Hp) (δ : DSt) (η : Eta) (Z : Xk) (Φ : List D → Eta → Prop) (Q : List (V × V) → Hp → Prop), Lk X.K R η H → Sl X.K R η H δ σ → dPairs drs Z δ η Φ →
    (∀ ps kvs ds H' η', Lk X.K R η' H' → Ext η H η' H' → PRep X.K R η' H' ps kvs ds → Φ ds η' → Q ps H') → (∀ C od x H' η', Lk X.K R η' H' → Ext η H η' H' → XRep X.K R η' H' C od x → Z x η' → E (.ref C) od H') → tPairs trs σ H Q := by
  induction h with
  | nil => exact fun R σ H δ η Z Φ Q l s q k _ => k [] [] [] H η l (Ext.refl _ _) .nil q
  | @cons e1 e2 ks vs tk tv dk dv trs drs a b _ ih =>
    intro R σ H δ η Z Φ Q l s q k kx
    refine a.so R σ H δ η Z _ _ l s q ⟨fun v1 d1 H1 η1 l1 x1 r1 q1 => ?_, kx⟩
    refine b.so R σ H1 δ η1 Z _ _ l1 (s.up x1) q1 ⟨fun v2 d2 H2 η2 l2 x2 r2 q2 => ?_, fun C od x H' η' l' y => kx C od x H' η' l' (x1.trans y)⟩
    obtain ⟨key, ek, q2⟩ := q2
    have x12 := x1.trans x2
    refine ih R σ H2 δ η2 Z _ _ l2 (s.up x12) q2 (fun ps kvs ds H3 η3 l3 x3 r3 q3 => ?_) fun C od x H' η' l' y => kx C od x H' η' l' (x12.trans y)
    exact k _ ((key, v2) :: kvs) _ H3 η3 l3 (x12.trans x3) (.cons (keyD_ok (r1.up x2) ek) ek (r2.up x3) r3) q3
theorem XRep.forth {K : PySem.W.Frag} {R : Addr → Prop} {η : Eta} {H : Hp} {p C : Addr} {od : Option Addr} {x : D} (h : XRep K (rup R p) η H C od x) : XRep K R η H C od x := by
  obtain ⟨ns, ds, d, fs, e0, e1, e2, e3, e4, e5, e6⟩ := h
  exact ⟨ns, ds, d, fs, e0, e1, e2, e3, fun z => e4 (.inr z), e5, (Reps.forth (fun _ _ _ h => h) _ _ e6).1⟩
theorem pd_disp (h : PDPs X E pos ks vs trs drs) (hall : ks.all (·.isSome) = true) (hl : ks.length = vs.length) (h0 : ks ≠ []) (h15 : ks.length ≤ 15) : PD X E (.Dict ks vs pos) (tFz (tDisp trs)) (dDisp drs) := ⟨pe_fz (pe_disp h.pps hall hl h0 h15), fun R σ H δ η Z Φ Q l s q k => by
  intro p hp
  have x0 : Ext η H η (upd H p (.dK [])) := Ext.new hp
  refine h.so (rup R p) σ _ δ η Z _ _ (l.back hp) (s.back hp) q (fun ps kvs ds H2 η2 l2 x2 r2 q2 => ?_) fun C od x H2 η2 l2 x2 y z => k.ex C od x H2 η2 l2.forth (x0.trans x2) y.forth z
  obtain ⟨few, q2⟩ := q2
  obtain ⟨e1, e2⟩ := r2.eq
  have np : η p = none := l.free hp
  have at2 : H2 p = some (.dK []) := x2.keepN p _ np upd_same
  obtain ⟨g1, g2⟩ := r2.put (acc := []) (a := ([], [])) rfl .nil List.nodup_nil
  refine ⟨at2, kvs, e1, by omega, p, .dK (mergeK [] kvs), upd_same, trivial, fun od => ?_⟩
  have e3 : upd (upd H2 p (.dK (mergeK [] kvs))) p (.frz od (.dK (mergeK [] kvs))) = upd H2 p (.frz od (.dK (mergeK [] kvs))) := by
    funext a
    by_cases ea : a = p
    · rw [ea, upd_same, upd_same]
    · rw [upd_ne ea, upd_ne ea, upd_ne ea]
  rw [e3]
  refine k.ok _ _ _ η2 (l2.put (o := .frz od (.dK (mergeK [] kvs)))).forth ⟨fun a o n e => ?_, (x0.trans x2).dom⟩ (.dct upd_same (l2.r p (.inl rfl)).2 (l.nr hp) g1 (Reps.forth ne_ex _ _ g2).1) q2
  rw [upd_ne (ne_of_none e hp)]
  exact (x0.trans x2).keep a o n e⟩
end
end DL
end
section
set_option Elab.async false
set_option linter.all false
set_option autoImplicit false
set_option maxRecDepth 100000
set_option maxHeartbeats 4000000
namespace DL
open PySem PySem.Spec PyProof.Rows L2
def fPairs : List (FE × FE) → FS → Rs (List D)
  | [], fs => .ok [] fs
  | (fk, fv) :: r, fs => (fPair fk fv fs).bind fun v fs1 => match v with
    | .d p => (fPairs r fs1).bind fun ps fs2 => .ok (p :: ps) fs2
    | _ => .bad
def fDisp (frs : List (FE × FE)) : FE := fun fs => (fPairs frs fs).bind fun ps fs1 => if ps.length ≤ 15 then .ok (.d (.dct (dctF ps ([], [])).1 (dctF ps ([], [])).2)) fs1 else .bad
inductive ImpPs : List (DE × DE) → List (FE × FE) → Prop
  | nil : ImpPs [] []
  | cons {dk dv : DE} {fk fv : FE} {ds : List (DE × DE)} {fs : List (FE × FE)} : ImpG VR dk fk → ImpG VR dv fv → ImpPs ds fs → ImpPs ((dk, dv) :: ds) ((fk, fv) :: fs)
def VNs : Om → FS → DSt → Eta → List D → List D → Prop := fun _ _ _ _ a b => a = b ∧ nrs a = true
theorem imp_pairs {drs : List (DE × DE)} {frs : List (FE × FE)} (h : ImpPs drs frs) : ∀ (B : Om) (fs : FS) (δ : DSt) (η : Eta) (Z : Xk) (Φ : List D → Eta → Prop), St B fs δ η → Post B δ VNs (fPairs frs fs) Z Φ → dPairs drs Z δ η Φ := by
  induction h with
  | nil => exact fun B fs δ η Z Φ s q => q [] η s ⟨rfl, rfl⟩
  | @cons dk dv fk fv ds frs a b _ ih =>
    intro B fs δ η Z Φ s q
    have := imp_pair a b B fs δ η Z (fun d η1 => dPairs ds Z δ η1 fun ps η2 => Φ (d :: ps) η2) s (Post.bind q fun v fs1 d1 η1 s1 r1 q1 => by
      cases v with
      | s _ => exact q1.elim
      | f _ => exact q1.elim
      | d p =>
        obtain ⟨rfl, n⟩ := r1
        refine ih B fs1 δ η1 Z _ s1 (Post.bind q1 fun ps fs2 ps' η2 s2 r2 q2 => ?_)
        obtain ⟨rfl, n2⟩ := r2
        exact q2 _ η2 s2 ⟨rfl, by simp [nrs, n, n2]⟩)
    exact this
theorem imp_disp {drs : List (DE × DE)} {frs : List (FE × FE)} (h : ImpPs drs frs) : ImpG VR (dDisp drs) (fDisp frs) := fun B fs δ η Z Φ s q =>
  imp_pairs h B fs δ η Z _ s (Post.bind q fun ps fs1 ps' η1 s1 r1 q1 => by
    obtain ⟨rfl, n⟩ := r1
    split at q1
    · rename_i few
      exact ⟨few, q1 _ η1 s1 ⟨rfl, by show nrs _ = true; exact nrs_dctF n rfl⟩⟩
    · exact q1.elim)
end DL
end
section
set_option Elab.async false
set_option linter.all false
set_option autoImplicit false
set_option maxRecDepth 100000
set_option maxHeartbeats 4000000
namespace DL
open PySem PySem.Spec PyProof.Rows L2
end DL
end
section
set_option Elab.async false
set_option linter.all false
set_option autoImplicit false
set_option maxRecDepth 100000
set_option maxHeartbeats 4000000
namespace DL
open PySem PySem.Spec PyProof.Rows L2
end DL
end
section
set_option Elab.async false
set_option linter.all false
set_option autoImplicit false
set_option maxRecDepth 100000
set_option maxHeartbeats 4000000
namespace EXX
open PySem PySem.Spec PyProof.Rows L2 Builtin Builtin.ObjectAttr
/-- what a built-in class of errors brings -/
structure EBase (B newId initId : String) (bmB : List Value) : Prop where
  F : ExcBaseFacts B newId initId bmB
  S : StoreFacts B bmB "object.__setattr__" "object"
  KF : PySem.W.KxsFacts B initId
theorem eb_VE : EBase "ValueError" "ValueError.__new__" "ValueError.__init__" [.type "ValueError", .type "Exception", .type "BaseException", .type "object"] := ⟨PySem.F.excBase_ValueError, PySem.F.store_ValueError, PySem.W.kxs_ValueError⟩
theorem eb_IE : EBase "IndexError" "IndexError.__new__" "IndexError.__init__" [.type "IndexError", .type "LookupError", .type "Exception", .type "BaseException", .type "object"] := ⟨PySem.F.excBase_IndexError, PySem.F.store_IndexError, PySem.W.kxs_IndexError⟩
/-- what the written part says of such a class -/
structure OexG (K : PySem.W.Frag) (B newId initId : String) (bmB : List Value) (C : Addr) : Prop where
  eb : EBase B newId initId bmB
  ini : PySem.W.excInitIn K C bmB newId = true
  ov : PySem.W.excOver K C bmB = true
  hd : PySem.W.hasDictIn K C = true
  sa : PySem.W.findIn K (.ref C) "__setattr__" = some (some (.builtin "object.__setattr__"))
  exC : PySem.W.subIn K (.ref C) (.type "BaseException") = some true
  exB : PySem.W.subIn K (.ref C) (.type B) = some true
  tyC : PySem.W.typeIn K (.ref C) = some (.type "type")
  kC : PySem.W.keepIn K (.ref C) = true
  su : PySem.W.ks_superIn K C C "__init__" = some (some (.builtin initId))
  op : PySem.W.nsIn K cStatics "thirdparty.any" = some none
section
variable {X : Cx} {pins : List (Addr × Obj)} {σ : L2.St} {H : Hp} {s : Shared} {a C dx : Addr} {f : Str} {y : V} {u : Value} {fs : List (Str × V)} {Q : Unit → Shared → Prop} {E : Value → Shared → Prop} {A : Around} {B newId initId : String} {bmB : List Value}
theorem cls_of (T : OexG X.K B newId initId bmB C) : ∃ cd, PySem.W.clsIn X.K C = some cd ∧ cd.hasDict = true := by
  obtain ⟨cd, h1, h2⟩ := PySem.W.any_some T.hd
  exact ⟨cd, h1, h2⟩
theorem exo_full (I : Inv X pins σ H s) (e : H a = some (exo a C (some dx))) (ed : H dx = some (exd dx fs)) : ∃ (t1 : Addr) (mA : Str → Option Value), s.heap.get? a = some ({ cls := .ref C, dict := some dx, data := .fields #[.ref t1, .none, .none, .none, .bool false, .none] } : Obj) ∧ s.heap.Ns1 dx mA ∧ ∀ f, RelO (fs.lookup f) (mA f) := by
  obtain ⟨t1, ho⟩ := exo_at I.hok e
  obtain ⟨mA, hns, rel⟩ := exd_at I.hok ed
  exact ⟨t1, mA, ho, hns, rel⟩
/-- the first field: a dict is laid, the object names it, the field goes into it -/
theorem ost_new (T : OexG X.K B newId initId bmB C) (I : Inv X pins σ H s) (e : H a = some (exo a C none)) (hno : PySem.W.takerIn X.K C f = some none) (ry : L2.RelV y u)
    (h : ∀ dx s', H dx = none → dx ≠ a → Inv X pins σ (upd (upd (upd H dx (exd dx [])) a (exo a C (some dx))) dx (exd dx [(f, y)])) s' → Q () s') : wpAny (model X.prog X.w) A (setAttr (.ref a) f u) Q E s := by
  obtain ⟨cd, hcl, hh⟩ := cls_of T
  obtain ⟨t1, ho⟩ := exo_at I.hok e
  obtain ⟨hp, g, dr, tk, os⟩ := s
  have fr : H hp.objs.size = none := I.hok.fresh (Nat.le_refl _)
  have na : a ≠ hp.objs.size := Nat.ne_of_lt (Heap.lt_size ho)
  have inst : PySem.W.InstAt hp a { cls := .ref C, dict := none, data := .fields #[.ref t1, .none, .none, .none, .bool false, .none] } C none := ⟨ho, rfl, rfl, trivial⟩
  refine PySem.W.set_plain I.kIn inst T.sa (PySem.W.osa_openX T.eb.S I.kIn inst T.ov hno fun b => ?_)
  refine wpAny_bind (wpAny_pure (wpAny_bind (PySem.W.instanceDict_exc (c2 := .none) ho (PySem.W.looks_clsIn I.kIn hcl) hh ?_)))
  have em : (hp.push (PySem.W.dictOf [] 0)).Ns hp.objs.size fun _ => none := ⟨_, #[], _, Heap.get?_push_at rfl rfl, rfl, fun e he => absurd he (by simp), fun _ => rfl⟩
  have I1 : Inv X pins σ (upd H hp.objs.size (exd hp.objs.size [])) ⟨hp.push (PySem.W.dictOf [] 0), g, dr, tk, os⟩ :=
    I.laid (t' := tk) (fun b o q => Heap.get?_push_of_some _ q) (Nat.le_refl _) (exd_ok (mA := fun _ => none) (Heap.Ns1.of_empty em) fun _ => True.intro)
  have ho1 : (hp.push (PySem.W.dictOf [] 0)).get? a = some _ := Heap.get?_push_of_some _ ho
  have ho2 := Heap.get?_update_self (fun o : Obj => { o with dict := some hp.objs.size }) ho1 rfl
  have kp : ∀ b o, b ≠ a → (hp.push (PySem.W.dictOf [] 0)).get? b = some o → ((hp.push (PySem.W.dictOf [] 0)).update a fun o => { o with dict := some hp.objs.size }).get? b = some o := fun b o nb q => (Heap.get?_update_ne _ _ _ _ nb).trans q
  have ea1 : upd H hp.objs.size (exd hp.objs.size []) a = some (exo a C none) := by rw [upd_ne na]; exact e
  have I2 : Inv X pins σ (upd (upd H hp.objs.size (exd hp.objs.size [])) a (exo a C (some hp.objs.size))) ⟨(hp.push (PySem.W.dictOf [] 0)).update a fun o => { o with dict := some hp.objs.size }, g, dr, tk, os⟩ :=
    I1.write (t' := tk) (by rw [ea1]; exact True.intro) (.inl rfl) kp ⟨_, ho2⟩ (exo_ok ho2)
  show wpAny _ _ (storeInDict hp.objs.size (.str f tk) f u) _ _ _
  refine PySem.HandSPX.store_in_new ⟨_, #[], _, (Heap.get?_update_ne _ _ _ _ na.symm).trans (Heap.get?_push_at rfl rfl), rfl, fun e he => absurd he (by simp), fun _ => rfl⟩ fun h' tk' hn' hs => ?_
  have ed2 : upd (upd H hp.objs.size (exd hp.objs.size [])) a (exo a C (some hp.objs.size)) hp.objs.size = some (exd hp.objs.size []) := by rw [upd_ne na.symm, upd_same]
  obtain ⟨od, _, _, hod, _⟩ := id hn'
  exact h hp.objs.size _ fr na.symm (I2.write (t' := tk') (by rw [ed2]; exact True.intro) (.inl rfl) (fun b o nb q => (hs.2 b nb).trans q) ⟨od, hod⟩ (exd_ok hn' (relO_put (fs := []) ry fun _ => True.intro)))
/-- a further field -/
theorem ost_old (T : OexG X.K B newId initId bmB C) (I : Inv X pins σ H s) (e : H a = some (exo a C (some dx))) (ed : H dx = some (exd dx fs)) (hl : fs.length ≤ 900) (hno : PySem.W.takerIn X.K C f = some none) (ry : L2.RelV y u)
    (h : ∀ s', Inv X pins σ (upd H dx (exd dx ((f, y) :: fs))) s' → Q () s') : wpAny (model X.prog X.w) A (setAttr (.ref a) f u) Q E s := by
  obtain ⟨cd, hcl, hh⟩ := cls_of T
  obtain ⟨t1, mA, ho, hns, rel⟩ := exo_full I e ed
  obtain ⟨hp, g, dr, tk, os⟩ := s
  obtain ⟨oD, _, _, hoD, _, _⟩ := hns.count (within_of rel)
  have inst : PySem.W.InstAt hp a { cls := .ref C, dict := some dx, data := .fields #[.ref t1, .none, .none, .none, .bool false, .none] } C (some oD) := ⟨ho, rfl, rfl, hoD⟩
  refine PySem.W.set_plain I.kIn inst T.sa (PySem.W.osa_openX T.eb.S I.kIn inst T.ov hno fun b => ?_)
  have lc : PySem.W.Looks (model X.prog X.w) hp (classData C) cd := PySem.W.looks_clsIn I.kIn hcl
  have hz : (fs.map (·.1)).length ≤ 1000 := by rw [List.length_map]; omega
  cases cd
  subst hh
  dsimp only
  unfold storeInOwnDict ownDictForStores
  repeat first | with_reducible refine PySem.OEX.store_in_old hns (within_of rel) hz ?_ | with_reducible refine wpAny_loadPart_at ho ?_ | with_reducible refine lc.at ?_ | wp_step
  intro h' tk' hn' hs
  obtain ⟨od, _, _, hod, _⟩ := id hn'
  exact h _ (I.write (t' := tk') (by rw [ed]; exact True.intro) (.inl rfl) (fun b o nb q => (hs.2 b nb).trans q) ⟨od, hod⟩ (exd_ok hn' (relO_put ry rel)))
end
/-- self.f = v, self an exception that is being made -/
def gOst (K : PySem.W.Frag) (B newId initId : String) (bmB : List Value) (f : Str) (to : TE) : TG := fun y σ H Q => to σ H fun x H2 => ∃ a C : Addr, x = .ref a ∧ OexG K B newId initId bmB C ∧ PySem.W.takerIn K C f = some none ∧
  ((H2 a = some (exo a C none) ∧ ∀ dx, H2 dx = none → dx ≠ a → Q σ (upd (upd (upd H2 dx (exd dx [])) a (exo a C (some dx))) dx (exd dx [(f, y)]))) ∨
    ∃ (dx : Addr) (fs : List (Str × V)), H2 a = some (exo a C (some dx)) ∧ H2 dx = some (exd dx fs) ∧ fs.length ≤ 900 ∧ Q σ (upd H2 dx (exd dx ((f, y) :: fs))))
/-- the store itself, both ways -/
theorem ost_go {X : Cx} {B newId initId : String} {bmB : List Value} {pins : List (Addr × Obj)} {σ : L2.St} {H : Hp} {s : Shared} {a C : Addr} {f : Str} {y : V} {u : Value} {R : L2.St → Hp → Prop} {Q : Unit → Shared → Prop} {E : Value → Shared → Prop} (I : Inv X pins σ H s) (ry : L2.RelV y u) (T : OexG X.K B newId initId bmB C) (hno : PySem.W.takerIn X.K C f = some none)
    (h : (H a = some (exo a C none) ∧ ∀ dx, H dx = none → dx ≠ a → R σ (upd (upd (upd H dx (exd dx [])) a (exo a C (some dx))) dx (exd dx [(f, y)]))) ∨ ∃ (dx : Addr) (fs : List (Str × V)), H a = some (exo a C (some dx)) ∧ H dx = some (exd dx fs) ∧ fs.length ≤ 900 ∧ R σ (upd H dx (exd dx ((f, y) :: fs))))
    (k : ∀ H' s', Inv X pins σ H' s' → R σ H' → Q () s') : wpAny (model X.prog X.w) X.A (setAttr (.ref a) f u) Q E s := by
  rcases h with h | h
  · exact ost_new T I h.1 hno ry fun dx s' n ne J => k _ _ J (h.2 dx n ne)
  · obtain ⟨dx, fs, h1, h2, h3, h4⟩ := h
    exact ost_old T I h1 h2 h3 hno ry fun s' J => k _ _ J h4
theorem pg_ost {X : Cx} {B newId initId : String} {bmB : List Value} {o : Expr} {to : TE} {f : Str} {pos : Pos} (ho : PE X o to) : PG X (.Attribute o f pos) (gOst X.K B newId initId bmB f to) := ⟨fun pins s σ H v u Q I r h => by
  rw [arm_assign_Attribute]
  refine wpAny_bind (wpAny_holding (thn (ho.run pins s σ H _ I h) fun ov s1 w => ?_))
  obtain ⟨x, H1, I1, rx, a, C, rfl, T, hno, q⟩ := w
  cases (show ov = Value.ref a from rx)
  exact wpAny_bind (wpAny_standAt (wpAny_bind (wpAny_holding (ost_go I1 r T hno q fun H' s' J z => wpAny_release ⟨σ, H', J, z⟩))))⟩
end EXX
end
section
set_option Elab.async false
set_option linter.all false
set_option autoImplicit false
set_option maxRecDepth 100000
set_option maxHeartbeats 4000000
namespace EXX
open PySem PySem.Spec PyProof.Rows L2
abbrev supEnv (qual : Str) (scope : Scope) (L f cda cc : Addr) : Env := PySem.W.ksEnv qual scope L f (.ref cda) cc
def supCx (P : Program) (w : World) (K : PySem.W.Frag) (mg : Str → Option Value) (base : Heap) (N : List Str) (qual : Str) (scope : Scope) (f cda cc : Addr) (A : Around) (outer : List Env) (s : Shared) (H : Hp) (xe : Value → Shared → Prop) : Cx where
  prog := P
  w := w
  K := K
  mg := mg
  base := base
  A := A.deeper (supEnv qual scope s.heap.objs.size f cda cc)
  N := N
  s_0 := s
  H_0 := H
  env := supEnv qual scope s.heap.objs.size f cda cc
  outer := outer
  stack := supEnv qual scope s.heap.objs.size f cda cc :: outer
  ex := []
  fn := fun _ => false
  calm := true
  pn := []
  xe := xe
/-- what the scope of such a def tells -/
structure SupS (N ps : List Str) (scope : Scope) : Prop where
  kind : scope.kind = .function
  co : scope.isCoroutine = false
  gen : scope.isGenerator = false
  nd : N.Nodup
  pre : N = ps
  par : ∀ x ∈ ps, scope.names.lookup x = some .local
  nocell : ∀ x ∈ scope.names, x.2 ≠ .cell
  free : ∀ x ∈ scope.names, x.2 = .free → x.1 = "__class__"
  sup : scope.names.lookup ("super" : Str) = some .globalImplicit
  cls : scope.names.lookup ("__class__" : Str) = some .free
section
variable {P : Program} {w : World} {K : PySem.W.Frag} {mg : Str → Option Value} {base : Heap} {N ps : List Str} {qual : Str} {scope : Scope} {f cda cc C : Addr} {A : Around} {outer : List Env} {s : Shared} {H : Hp} {xe : Value → Shared → Prop} {us : List Value} {vs : List V} {h₀ : Heap} {tk : Nat} {cl : Value} {cld : Option Addr} {csl : Array (Option Value)}
theorem look_rev : ∀ {ps : List Str} {us : List Value} {i : Nat} {x : Str} {u : Value}, ps.Nodup → ps[i]? = some x → us[i]? = some u → (ps.zip us).reverse.lookup x = some u := by
  intro ps us i x u nd h1 h2
  have key : ∀ (l : List (Str × Value)) (x : Str) (u : Value), (l.map (·.1)).Nodup → (x, u) ∈ l → l.lookup x = some u := by
    intro l
    induction l with
    | nil => intro x u _ h; cases h
    | cons q r ih =>
      intro x u n h
      obtain ⟨y, z⟩ := q
      rw [List.map_cons, List.nodup_cons] at n
      rw [List.lookup_cons]
      rcases List.mem_cons.mp h with e | e
      · cases e; simp
      · have ne : x ≠ y := by
          rintro rfl
          exact n.1 (List.mem_map.mpr ⟨_, e, rfl⟩)
        rw [beq_false_of_ne ne]
        exact ih x u n.2 e
  refine key _ x u ?_ ?_
  · rw [List.map_reverse]
    refine (List.reverse_perm _).nodup_iff.mpr ?_
    exact List.Nodup.sublist (by
      have : ∀ (a : List Str) (b : List Value), ((a.zip b).map (·.1)).Sublist a := by
        intro a
        induction a with
        | nil => intro b; simp
        | cons y a ih =>
          intro b
          cases b with
          | nil => simp
          | cons z b => simpa using ih b
      exact this ps us) nd
  · rw [List.mem_reverse]
    refine List.mem_iff_getElem?.mpr ⟨i, ?_⟩
    rw [List.getElem?_zip_eq_some]
    exact ⟨h1, h2⟩
theorem sup_start (S : SupS N ps scope) (hd : A.handled = none) (e0 : Env0 P w K mg base A outer s H) (hl : vs.length = ps.length) (r : Vals vs us) (hcell : K.lookup cc = some ⟨cl, cld, .cell (some (.ref C)), csl⟩)
    (hns : h₀.Ns s.heap.objs.size fun x => (ps.zip us).reverse.lookup x) (kp : ∀ b o, s.heap.get? b = some o → h₀.get? b = some o) :
    Inv (supCx P w K mg base N qual scope f cda cc A outer s H xe) [] (L2.start N vs) H { s with heap := h₀, toks := tk } := by
  have noA : ∀ b : Addr, b ∉ (supCx P w K mg base N qual scope f cda cc A outer s H xe).ex := fun b z => absurd (show b ∈ ([] : List Addr) from z) (by simp)
  have cce : ∀ {y : Str} {c : Addr}, (supCx P w K mg base N qual scope f cda cc A outer s H xe).env.cells.lookup y = some c → y = "__class__" ∧ c = cc := fun {y c} e => by
    have e : (match y == ("__class__" : Str) with | true => some cc | false => ([] : List (Str × Addr)).lookup y) = some c := e
    cases q : (y == ("__class__" : Str)) with
    | true => rw [q] at e; cases e; exact ⟨beq_iff_eq.mp q, rfl⟩
    | false => rw [q] at e; cases e
  have hb := e0.bs cc _ (e0.mod.kin _ _ hcell)
  refine ⟨⟨e0.mod, S.kind, rfl, rfl, Nat.le_refl _, fun y z c e1 e2 => (cce e1).1.trans (cce e2).1.symm, fun y hy => ?_, fun y c z _ => ?_, fun _ => hd, Around.frames_deeper e0.frames, .inr ⟨rfl, rfl⟩, fun b z => absurd z (noA b), e0.bs, e0.bsz, fun b _ _ => noA b, fun b z => absurd z (noA b), e0.funs, e0.frf⟩,
    rfl, e0.bare, Un.kept kp, ⟨_, hns, fun i y v e1 e2 e3 => ?_⟩, fun y c e => ?_, e0.hok.fresh (Nat.le_refl _), fun y c e => ?_, fun q hq => absurd (show q ∈ ([] : List (Addr × Obj)) ++ [] from hq) (by simp), e0.hok.kept kp, ?_⟩
  · have hy : scope.names.lookup y = some .cell ∨ scope.names.lookup y = some .free := hy
    rcases hy with hy | hy
    · exact absurd rfl (S.nocell _ (PySem.mem_of_lookup hy))
    · have := S.free _ (PySem.mem_of_lookup hy) rfl
      have e : y = "__class__" := this
      subst e
      exact ⟨cc, rfl⟩
  · have z : false = true := z
    cases z
  · have e1 : N[i]? = some y := e1
    have hN := S.pre
    subst hN
    have hi : i < vs.length := by
      unfold L2.start at e2
      by_cases hi : i < vs.length
      · exact hi
      · rw [List.getElem?_append_right (by simpa using hi), List.getElem?_replicate] at e2
        split at e2 <;> cases e2
    have ha : vs[i]? = some v := by
      unfold L2.start at e2
      rw [List.getElem?_append_left (by simpa using hi), List.getElem?_map] at e2
      cases e : vs[i]? with
      | none => rw [e] at e2; cases e2
      | some a => rw [e] at e2; cases e2; rfl
    obtain ⟨u, hu, rv⟩ := r.get ha
    exact ⟨u, rv, .inl ⟨S.par y (List.mem_of_getElem? e1), look_rev S.nd e1 hu⟩⟩
  · obtain ⟨-, rfl⟩ := cce e
    exact ⟨some (.ref C), _, kp _ _ hb.1, rfl⟩
  · obtain ⟨-, rfl⟩ := cce e
    exact hb.2
  · have hN := S.pre
    subst hN
    unfold L2.start
    show _ = N.length
    rw [List.length_append, List.length_map, List.length_replicate]
    omega
/-- super().__init__(..), the end of such a def -/
theorem sup_call {X : Cx} {B newId initId : String} {bmB : List Value} {pins : List (Addr × Obj)} {σ : L2.St} {H2 : Hp} {hp : Heap} {g : Array GenState} {dr : Drawn} {tk : Nat} {os : OsState} {a u : Addr} {d : Option Addr} {rest : List Value} {Q : Value → Shared → Prop} (T : OexG X.K B newId initId bmB C) (I : Inv X pins σ H2 ⟨hp, g, dr, tk, os⟩) (ea : H2 a = some (exo a C d)) (hu : hp.get? u = some (PySem.W.kxs_mw initId a)) (hz : rest.length ≤ sizeLine)
    (h : ∀ s', Inv X pins σ H2 s' → Q .none s') : wpAny (model X.prog X.w) X.A (call (.ref u) rest) Q X.xe ⟨hp, g, dr, tk, os⟩ := by
  obtain ⟨nm, N', qn, bs, bm, hdct, sn, sub, ab, col, dd, k0, k1, k2, k3, k5, hC, hT⟩ := PySem.W.excInit_of I.kIn T.ini
  obtain ⟨t1, he⟩ := exo_at I.hok ea
  refine wpAny_call (codeAny_of_tree ?_)
  show wpAny _ X.A.in1 (callAny (.ref u) ⟨rest, []⟩) _ _ _
  simp only [callAny]
  refine wpAny_bind (wpAny_load hu ?_)
  simp only [PySem.W.kxs_mw, show (Value.type "method-wrapper" == Value.type "method" || Value.type "method-wrapper" == Value.type "builtin_function_or_method" || Value.type "method-wrapper" == Value.type "method-wrapper") = true by decide, if_true]
  refine PySem.W.KFB.if_so (by decide) ?_
  refine wpAny_bind (PySem.W.check_bound_init T.eb.F.toExcCallFacts hC he rfl ?_)
  refine wpAny_bind (wpAny_pure (wpAny_pure ?_))
  refine ⟨plainId_quiet T.eb.F.init.plain _, codeAny_builtin T.eb.F.initEntry ?_⟩
  refine PySem.W.exc_init_tree (cls := .ref C) (t0 := t1) (dv := d) (c2 := .none) (c3 := .none) (b4 := .bool false) he hz fun h' k e' _ => ?_
  have J := I.write (t' := tk) (x := a) (e := a) (o := exo a C d) (by rw [ea]; exact True.intro) (.inl rfl) k ⟨_, e'⟩ (exo_ok e')
  have eu : upd H2 a (exo a C d) = H2 := by
    funext b
    by_cases hb : b = a
    · rw [hb, upd_same, ea]
    · rw [upd_ne hb]
  rw [eu] at J
  exact h _ J
/-- the call of the bound __init__ -/
def CwOk (es : List Expr) (env : Env) (pos : Pos) : Prop := ∀ (M : Model) (A : Around) (E : Value → Shared → Prop) (s : Shared) (i : String) (u x : Addr) (Q : Value → Shared → Prop), wpAny M A (spliced (backTo pos (starEach es env))) (fun vs s₁ => PySem.W.KxsAt i u x s₁.heap ∧ wpAny M A (call (.ref u) vs) Q E s₁) E s →
  wpAny M A (callWith pos (.ref u) [] (backTo pos (starEach es env)) []) Q E s
theorem cw1 {env : Env} {pos : Pos} {e : Expr} {rest : List Expr} (he : starEach (e :: rest) env = (false, eval e env) :: starEach rest env := by rfl) (hplain : (backTo pos (starEach rest env)).any (·.1) = false := by rfl) : CwOk (e :: rest) env pos := fun M A E s i u x Q h => by
  rw [he] at h ⊢
  refine PySem.W.kxs_callWith (i := i) (x := x) (by show (false || (backTo pos (starEach rest env)).any (·.1)) = false; rw [hplain]; rfl) ?_
  exact Calls.evalArgs_plain h
/-- the def: one statement on its fields, then super().__init__(..) -/
theorem fnSup {CX : CXT} {B newId initId : String} {bmB : List Value} {k : Nat} {params : Arguments} {kV doc pm ct oc ccl : Value} {an od cdd : Option Addr} {osl ccs : Array (Option Value)} {vsC : Array Value} {file : Str} {tf : Tok} {ar : Arg} {st1 : Stmt} {t1 : TS} {es : List Expr} {ta : TA} {p0 p1 p2 p3 p4 : Pos} {pl : Addr → Sem Bool} {sp : Sp}
    (lk : K.lookup f = some ⟨oc, od, .func (PySem.W.ksFn "__init__" qual params [st1, .Expr (.Call (.Attribute (.Call (.Name "super" p0) [] [] p1) "__init__" p2) es [] p3) p4] scope .none kV doc pm an (.ref cda) ct cc), osl⟩)
    (hcd : PySem.W.codeIn K (.ref cda) qual = true) (S : SupS N ps scope) (T : OexG K B newId initId bmB C) (hcell : K.lookup cc = some ⟨cl, cld, .cell (some (.ref C)), csl⟩)
    (hcode : K.lookup cda = some ⟨ccl, cdd, .fields vsC, ccs⟩) (hvs : vsC[2]? = some (.str file tf)) (hfile : ((P.main.file : Str) == file) = true) (htop : (P.main.scope.names.lookup ("super" : Str)).isSome = false) (hsup : mg "super" = none)
    (har : (params.posonlyargs ++ params.args).head? = some ar) (har2 : ps[0]? = some ar.arg)
    (len : ∀ vs H Q E, sp vs H Q E → vs.length = ps.length)
    (hst : ∀ (A : Around) (outer : List Env) (s : Shared) (H : Hp) (xe : Value → Shared → Prop), PS (supCx P w K mg base N qual scope f cda cc A outer s H xe) st1 t1)
    (hes : ∀ (A : Around) (outer : List Env) (s : Shared) (H : Hp) (xe : Value → Shared → Prop), PA (supCx P w K mg base N qual scope f cda cc A outer s H xe) es ta)
    (hpl : ∀ (L : Addr), CwOk es (supEnv qual scope L f cda cc) p3)
    (hcl : ∀ (L : Addr), eval (.Call (.Attribute (.Call (.Name "super" p0) [] [] p1) "__init__" p2) es [] p3) (supEnv qual scope L f cda cc) = (do
      let ov ← attributeBase (.Call (.Name "super" p0) [] [] p1) "__init__" (supEnv qual scope L f cda cc) (eval (.Call (.Name "super" p0) [] [] p1) (supEnv qual scope L f cda cc))
      standAt p2.atName
      let (g, first) ← holding [ov] (getMethod ov "__init__" (pl L))
      callWith p3 g first (backTo p3 (starEach es (supEnv qual scope L f cda cc))) []))
    (hsw : ∀ (L : Addr), swapsWith (.Call (.Attribute (.Call (.Name "super" p0) [] [] p1) "__init__" p2) es [] p3) none p4.line (supEnv qual scope L f cda cc) = pure false)
    (hsp : ∀ vs H Q E, sp vs H Q E → ∃ a, vs[0]? = some (.ref a) ∧ t1 { nx := fun σ H2 => (∃ d, σ[0]? = some (some (.ref a)) ∧ H2 a = some (exo a C d)) ∧ ta σ H2 fun ws H3 => ws.length ≤ 1000 ∧ (∃ d, H3 a = some (exo a C d)) ∧ Q .non H3, rt := fun _ _ => False } (L2.start N vs) H) :
    FnOk P w K mg base CX (k + 1) f (PySem.W.ksFn "__init__" qual params [st1, .Expr (.Call (.Attribute (.Call (.Name "super" p0) [] [] p1) "__init__" p2) es [] p3) p4] scope .none kV doc pm an (.ref cda) ct cc) ps sp := by
  refine ⟨len, fun A outer s H args us vs Q E hr e0 hb r hsp' => ?_⟩
  have hl := len _ _ _ _ hsp'
  obtain ⟨a, ha, ht⟩ := hsp _ _ _ _ hsp'
  have KX : K.In s.heap := e0.mod.kin.keeps fun b o e => (e0.bs b o e).1
  have lim : s.heap.NoLimit := e0.mod.nolimit.keeps fun b o e => (e0.bs b o e).1
  refine ks_codeAny_call_defAt (fd := PySem.W.ksFn "__init__" qual params [st1, .Expr (.Call (.Attribute (.Call (.Name "super" p0) [] [] p1) "__init__" p2) es [] p3) p4] scope .none kV doc pm an (.ref cda) ct cc) (binds := ps.zip us) hr.depth (KX _ _ lk) rfl lim (PySem.W.codeRec_of KX hcd) rfl hb S.nocell (fun y hy => ?_) (fun h₀ hns kp => ?_) S.co S.gen S.kind
  · obtain ⟨n, v⟩ := y
    exact S.par n (List.of_mem_zip hy).1
  show _root_.PySem.wpAt (model P w) (A.deeper (supEnv qual scope s.heap.objs.size f cda cc)) (.func _ (supEnv qual scope s.heap.objs.size f cda cc)) (execs _ (supEnv qual scope s.heap.objs.size f cda cc)) _ _ _
  generalize hX : supCx P w K mg base N qual scope f cda cc A outer s H (fun e s' => wpAny (model P w) (A.deeper (supEnv qual scope s.heap.objs.size f cda cc)) (leaving (supEnv qual scope s.heap.objs.size f cda cc) e) (fun _ s'' => CR CX outer P w H s Q E (.error e) s'') (fun e' s'' => CR CX outer P w H s Q E (.error e') s'') s') = X
  have I0 : Inv X [] (L2.start N vs) H { s with heap := h₀, toks := s.toks + (ps.zip us).length } := by
    rw [← hX]; exact sup_start S hr.hd e0 hl r hcell hns kp
  have hS1 : PS X st1 t1 := by rw [← hX]; exact hst _ _ _ _ _
  have hA1 : PA X es ta := by rw [← hX]; exact hes _ _ _ _ _
  have hXA : X.A = A.deeper (supEnv qual scope s.heap.objs.size f cda cc) := by rw [← hX] <;> rfl
  have hXe : X.env = supEnv qual scope s.heap.objs.size f cda cc := by rw [← hX] <;> rfl
  have hXx : X.xe = fun e s' => wpAny (model P w) (A.deeper (supEnv qual scope s.heap.objs.size f cda cc)) (leaving (supEnv qual scope s.heap.objs.size f cda cc) e) (fun _ s'' => CR CX outer P w H s Q E (.error e) s'') (fun e' s'' => CR CX outer P w H s Q E (.error e') s'') s' := by rw [← hX] <;> rfl
  have hXP : X.prog = P := by rw [← hX] <;> rfl
  have hXw : X.w = w := by rw [← hX] <;> rfl
  have hXK : X.K = K := by rw [← hX] <;> rfl
  have hXm : X.mg = mg := by rw [← hX] <;> rfl
  have hXN : X.N = N := by rw [← hX] <;> rfl
  have fin : ∀ {σ' : L2.St} {H' : Hp} {s' : Shared}, Inv X [] σ' H' s' → Q .non H' → CR CX outer P w H s Q E (.ok (.ret .none)) s' := fun {σ' H' s'} J q => by
    have os := J.os
    have bare := J.bare
    have un := J.base
    have ok := J.hok
    rw [← hX] at os un ok
    exact ⟨.non, H', os, bare, un, ok, rfl, q⟩
  have W1 := hS1.run [] _ _ H _ I0 ht
  rw [hXP, hXw, hXA, hXe, hXx] at W1
  refine ks_wpAt_execs_cons (wpAt_of_wpAny (wpAny_mono W1 (fun fl s1 hs => ?_) fun e s' x => x))
  cases fl with
  | ret u =>
    obtain ⟨_, _, _, _, _, z⟩ := hs
    exact False.elim z
  | brk =>
    obtain ⟨_, _, _, z⟩ := hs
    exact False.elim z
  | cont =>
    obtain ⟨_, _, _, z⟩ := hs
    exact False.elim z
  | next =>
    obtain ⟨σ2, H2, I2, ⟨d2, hs0, ea⟩, q2⟩ := hs
    refine ks_wpAt_execs_cons (ks_wpAt_Expr_any ?_ (by unfold interactive; simp [S.kind]) (hsw _))
    refine ks_wpAt_MethodCall (pl := pl _) ?_ (hcl _)
    obtain ⟨hp, g, dr, tk, os⟩ := s1
    have K2 : K.In hp := by have := I2.kIn; rw [hXK] at this; exact this
    obtain ⟨t0, he⟩ := exo_at I2.hok ea
    obtain ⟨m, hn, hlk⟩ := id I2.loc
    have hm0 : m ar.arg = some (.ref a) := by
      have hN := S.pre
      have e0 : X.N[0]? = some ar.arg := by rw [hXN, hN]; exact har2
      have hv : X.env.scope.names.lookup ar.arg = some .local := by rw [hXe]; exact S.par _ (List.mem_of_getElem? har2)
      obtain ⟨u, ru, q⟩ := hlk 0 ar.arg (.ref a) e0 hs0 (.inl hv)
      obtain rfl : u = Value.ref a := ru
      rcases q with ⟨_, e⟩ | ⟨z, _⟩
      · exact e
      · have hv' : X.env.kindOf ar.arg = some .local := hv
        rw [hv'] at z
        rcases z with z | z <;> cases z
    have hn' : hp.Ns s.heap.objs.size m := by have z := hn; rw [hXe] at z; exact z
    obtain ⟨cdD, hD, hmro⟩ : ∃ cd, PySem.W.clsIn K C = some cd ∧ True := by
      obtain ⟨cd, h1, _⟩ := PySem.W.any_some T.hd
      exact ⟨cd, h1, trivial⟩
    obtain ⟨oD, hD1, hD2⟩ : ∃ oD, hp.get? C = some oD ∧ oD.data = .cls cdD := by
      unfold PySem.W.clsIn at hD
      split at hD
      · rename_i c d cd' sl ho
        cases hD
        exact ⟨_, K2 _ _ ho, rfl⟩
      · cases hD
    have hglob : hp.Ns mainGlobals mg := by have z := I2.mod.glob.keeps I2.bk; rw [hXm] at z; exact z
    obtain ⟨mb, hb1, hb2⟩ := I2.mod.blt
    have hb1 : hp.Ns builtinsNs mb := hb1.keeps I2.bk
    have subC : PySem.W.Looks (model P w) hp (isSubtype (.ref C) (.ref C)) true := by
      refine PySem.W.looks_mroIn K2 ?_
      obtain ⟨cd, h1, h2⟩ := PySem.W.any_some T.ov
      rw [h1] at hD
      cases hD
      unfold PySem.W.mroIn
      rw [h1, Option.bind_some]
      split at h2
      · rename_i C' bm hm
        rw [Bool.and_eq_true, beq_iff_eq] at h2
        rw [hm, h2.1, if_neg (by simp)]
        simp
      · cases h2
    refine ks_wpAt_super_base (env := supEnv qual scope s.heap.objs.size f cda cc) S.sup S.cls rfl rfl (K2 _ _ lk) rfl har rfl (K2 _ _ hcode) rfl hvs hfile htop ?_
    refine PySem.W.ks_loadName_global S.kind S.sup (Calls.loadGlobal_builtin (env := supEnv qual scope s.heap.objs.size f cda cc) hglob hsup hb1 ((hb2 _ (by decide)).trans (by kernel_rfl : bootBuiltins "super" = some (.type "super"))) ⟨rfl, ?_⟩)
    refine wpAny_loadName_free S.kind S.cls rfl ⟨_, K2 _ _ hcell, rfl⟩ ?_
    refine wpAny_loadName_local S.kind (S.par _ (List.mem_of_getElem? har2)) hn' hm0 ?_
    refine ks_wpAny_isType_cls hD1 hD2 ⟨rfl, ?_⟩
    refine ks_wpAny_call_super hD1 hD2 he rfl (fun c e => by cases e) subC (fun h' hso k1 => ?_)
    have I3 : Inv X [] σ2 H2 ⟨h', g, dr, tk, os⟩ := I2.kept (s := ⟨hp, g, dr, tk, os⟩) (t' := tk) k1
    have he3 := k1 _ _ he
    have K3 : K.In h' := K2.keeps k1
    have xC : a ≠ C := fun z => by
      rw [z, hD1] at he
      cases he
      cases hD2
    have LT : PySem.W.Looks (model P w) h' (typeOf (.ref a)) (.ref C) := fun A Q E s k q => wpAny_typeOf_ref (k _ _ he3) q
    have hsu := T.su
    unfold PySem.W.ks_superIn at hsu
    rw [hD, Option.bind_some] at hsu
    refine PySem.W.kxs_getMethod T.eb.KF hso (PySem.W.looks_opaque K3 T.op) (l₀ := cdD.mro) (fun A Q E s k q => wpAny_bind ((PySem.W.looks_clsIn K3 hD) A _ E s k (wpAny_pure q))) rfl K3 hsu (LT.andThen (PySem.W.looks_subIn K3 T.exB)) xC rfl ?_
    have kp4 : ∀ b o, h'.get? b = some o → (h'.push (PySem.W.kxs_mw initId a)).get? b = some o := fun b o e => Heap.get?_push_of_some _ e
    have I4 : Inv X [] σ2 H2 ⟨h'.push (PySem.W.kxs_mw initId a), g, dr, tk + 1, os⟩ := I3.kept (s := ⟨h', g, dr, tk, os⟩) (t' := tk + 1) kp4
    have hu4 : (h'.push (PySem.W.kxs_mw initId a)).get? h'.objs.size = some (PySem.W.kxs_mw initId a) := Heap.get?_push_size _ rfl
    have T' : OexG X.K B newId initId bmB C := by rw [hXK]; exact T
    have I4p : Inv X [(h'.objs.size, PySem.W.kxs_mw initId a)] σ2 H2 ⟨h'.push (PySem.W.kxs_mw initId a), g, dr, tk + 1, os⟩ := I4.pins_of fun p hp => by
      obtain rfl : p = (h'.objs.size, PySem.W.kxs_mw initId a) := by simpa using hp
      refine ⟨hu4, I3.hok.fresh (Nat.le_refl _), fun z => ?_, I3.nofs (Nat.le_refl _), fun v z => by cases z⟩
      have h1 := I3.lt
      have z' : h'.objs.size = X.env.locals := z
      have h1' : X.env.locals < h'.objs.size := h1
      rw [z'] at h1'
      exact absurd h1' (Nat.lt_irrefl _)
    refine hpl _ _ _ _ _ initId _ a _ ?_
    have W2 := hA1.run p3 _ _ σ2 H2 _ I4p q2
    rw [hXP, hXw, hXA, hXe, hXx] at W2
    refine wpAny_mono W2 (fun ws s5 h5 => ?_) fun e s' x => x
    obtain ⟨vs5, H3, I5, r5, hz5, ⟨d3, ea3⟩, q3⟩ := h5
    have hu5 := (I5.pin _ (List.mem_append_right _ List.mem_cons_self)).1
    obtain ⟨h5, g5, dr5, tk5, os5⟩ := s5
    refine ⟨hu5, ?_⟩
    have W3 := sup_call (Q := fun v s' => v = .none ∧ Inv X [] σ2 H3 s') T' (I5.unpinned (pins := [])) ea3 hu5 (by rw [← Paired.length r5, sizeLine_eq]; omega) fun s' J => ⟨rfl, J⟩
    rw [hXP, hXw, hXA, hXx] at W3
    refine wpAny_mono W3 (fun v s' hv => ?_) fun e s' x => x
    obtain ⟨rfl, J⟩ := hv
    refine wpAt_of_wpAny (wpAny_execs_nil ?_)
    exact fin J q3
end
end EXX
end
section
set_option Elab.async false
set_option linter.all false
set_option autoImplicit false
set_option maxRecDepth 100000
set_option maxHeartbeats 4000000
namespace EXX
open PySem PySem.Spec PyProof.Rows L2
/-- what the making of an exception leaves: all but a as it was, a with a new dict of these fields -/
def Stored (C a : Addr) (fs : List (Str × V)) (H H' : Hp) : Prop := (∀ b o, b ≠ a → H b = some o → H' b = some o) ∧ ∃ d, H d = none ∧ d ≠ a ∧ H' a = some (exo a C (some d)) ∧ H' d = some (exd d fs)
/-- the promise of C.__init__(self, x): self.code, self.x = nm, x; super().__init__(x) -/
def spX1 (C : Addr) (nm x : Str) : Sp := fun vs H Q _ => ∃ a v, vs = [.ref a, v] ∧ H a = some (exo a C none) ∧ ∀ H', Stored C a [(x, v), ("code", .str nm)] H H' → Q .non H'
theorem stored_one {C a d : Addr} {H : Hp} {f : Str} {y : V} (ha : H a = some (exo a C none)) (hd : H d = none) (da : d ≠ a) : Stored C a [(f, y)] H (upd (upd (upd H d (exd d [])) a (exo a C (some d))) d (exd d [(f, y)])) :=
  ⟨fun b o nb e => by rw [upd_ne (ne_of_none e hd), upd_ne nb, upd_ne (ne_of_none e hd)]; exact e, d, hd, da, by rw [upd_ne da.symm, upd_same], upd_same⟩
theorem Stored.more {C a : Addr} {H H' : Hp} {fs gs : List (Str × V)} (s : Stored C a fs H H') : ∀ d, H' a = some (exo a C (some d)) → H' d = some (exd d fs) → H d = none → d ≠ a → Stored C a gs H (upd H' d (exd d gs)) := fun d h1 h2 h3 h4 =>
  ⟨fun b o nb e => by rw [upd_ne (ne_of_none e h3)]; exact s.1 b o nb e, d, h3, h4, by rw [upd_ne h4.symm]; exact h1, upd_same⟩
section
variable {K : PySem.W.Frag} {C : Addr} {B newId initId : String} {bmB : List Value} {nm x : Str}
theorem t1_ok {a : Addr} {H : Hp} {v : V} (T : OexG K B newId initId bmB C) (h1 : PySem.W.takerIn K C "code" = some none) (h2 : PySem.W.takerIn K C x = some none) (ha : H a = some (exo a C none)) {Q : L2.St → Hp → Prop}
    (h : ∀ H', Stored C a [(x, v), ("code", .str nm)] H H' → Q (L2.start (["self", x] : List Str) [.ref a, v]) H') :
    tAsg (tTup (tCons (tC (.str nm)) (tCons (tVar 1) tNil))) (gTup K 2 (gCons (gOst K B newId initId bmB "code" (tVar 0)) (gCons (gOst K B newId initId bmB x (tVar 0)) gNil))) { nx := Q, rt := fun _ _ => False } (L2.start (["self", x] : List Str) [.ref a, v]) H := by
  refine ⟨v, rfl, by show 2 ≤ sizeLine; rw [sizeLine_eq]; decide, fun p hp => ?_⟩
  have pa : p ≠ a := fun z => by rw [z, ha] at hp; cases hp
  have ha' : upd H p (.tup [.str nm, v]) a = some (exo a C none) := by rw [upd_ne pa.symm]; exact ha
  refine ⟨p, [.str nm, v], rfl, .inl (.inl upd_same), rfl, .str nm, [v], rfl, .ref a, rfl, a, C, rfl, T, h1, .inl ⟨ha', fun d hd da => ?_⟩⟩
  have st := stored_one (f := "code") (y := .str nm) ha' hd da
  have dp : d ≠ p := fun z => by rw [z, upd_same] at hd; cases hd
  refine ⟨v, [], rfl, .ref a, rfl, a, C, rfl, T, h2, .inr ⟨d, _, by rw [upd_ne da.symm, upd_same], upd_same, by show 1 ≤ 900; decide, rfl, h _ ?_⟩⟩
  obtain ⟨m1, d', m2, m3, m4, m5⟩ := st.more (gs := [(x, v), ("code", .str nm)]) d (by rw [upd_ne da.symm, upd_same]) upd_same hd da
  refine ⟨fun b o nb e => m1 b o nb (by rw [upd_ne (ne_of_none e hp)]; exact e), d', ?_, m3, m4, m5⟩
  by_cases q : d' = p
  · rw [q, upd_same] at m2; cases m2
  · rw [upd_ne q] at m2; exact m2
end
/-- what the written part says of the __init__ at f, its code at cda, its __class__ cell at cc -/
structure SupF (P : Program) (K : PySem.W.Frag) (mg : Str → Option Value) (C f : Addr) (qual : Str) (params : Arguments) (body : List Stmt) (scope : Scope) (cda cc : Addr) (fd : FuncData) : Prop where
  ex : ∃ (oc kV doc pm ct ccl cl : Value) (an od cdd cld : Option Addr) (osl ccs csl : Array (Option Value)) (vsC : Array Value) (file : Str) (tf : Tok), fd = PySem.W.ksFn "__init__" qual params body scope .none kV doc pm an (.ref cda) ct cc ∧ K.lookup f = some ⟨oc, od, .func fd, osl⟩ ∧ PySem.W.codeIn K (.ref cda) qual = true ∧
    K.lookup cc = some ⟨cl, cld, .cell (some (.ref C)), csl⟩ ∧ K.lookup cda = some ⟨ccl, cdd, .fields vsC, ccs⟩ ∧ vsC[2]? = some (.str file tf) ∧ ((P.main.file : Str) == file) = true
  top : (P.main.scope.names.lookup ("super" : Str)).isSome = false
  sup : mg "super" = none
section
variable {P : Program} {w : World} {K : PySem.W.Frag} {mg : Str → Option Value} {base : Heap} {CX : CXT} {C f cda cc : Addr} {B newId initId : String} {bmB : List Value} {nm x qual : Str} {scope : Scope} {k : Nat} {params : Arguments} {fd : FuncData} {ar : Arg} {k1 k2 k3 : Nat} {q1 q2 q3 q4 q5 q6 q7 q8 q9 p0 p1 p2 p3 p4 p5 : Pos}
theorem fnSup1 {pl : Addr → Sem Bool} (F : SupF P K mg C f qual params [.Assign [.Tuple [.Attribute (.Name "self" q1) "code" q2, .Attribute (.Name "self" q3) x q4] k1 q5] (.Tuple [.Constant (.str nm) k2 q6, .Name x q7] k3 q8) p5, .Expr (.Call (.Attribute (.Call (.Name "super" p0) [] [] p1) "__init__" p2) [.Name x q9] [] p3) p4] scope cda cc fd)
    (S : SupS ["self", x] ["self", x] scope) (T : OexG K B newId initId bmB C) (har : (params.posonlyargs ++ params.args).head? = some ar) (hsf : ar.arg = "self") (h1 : PySem.W.takerIn K C "code" = some none) (h2 : PySem.W.takerIn K C x = some none) (hx : (x == ("__debug__" : Str)) = false) (hx2 : (x == ("__classdict__" : Str)) = false)
    (hcl : ∀ L : Addr, eval (.Call (.Attribute (.Call (.Name "super" p0) [] [] p1) "__init__" p2) [.Name x q9] [] p3) (supEnv qual scope L f cda cc) = (do
      let ov ← attributeBase (.Call (.Name "super" p0) [] [] p1) "__init__" (supEnv qual scope L f cda cc) (eval (.Call (.Name "super" p0) [] [] p1) (supEnv qual scope L f cda cc))
      standAt p2.atName
      let (g, first) ← holding [ov] (getMethod ov "__init__" (pl L))
      callWith p3 g first (backTo p3 (starEach [.Name x q9] (supEnv qual scope L f cda cc))) []) := by intro L; rfl) :
    FnOk P w K mg base CX (k + 1) f fd ["self", x] (spX1 C nm x) := by
  obtain ⟨oc, kV, doc, pm, ct, ccl, cl, an, od, cdd, cld, osl, ccs, csl, vsC, file, tf, rfl, lk, hcd, hcell, hcode, hvs, hfile⟩ := F.ex
  have px : scope.names.lookup x = some .local := S.par x (by simp)
  have ps : scope.names.lookup ("self" : Str) = some .local := S.par "self" (by simp)
  refine fnSup (t1 := tAsg (tTup (tCons (tC (.str nm)) (tCons (tVar 1) tNil))) (gTup K 2 (gCons (gOst K B newId initId bmB "code" (tVar 0)) (gCons (gOst K B newId initId bmB x (tVar 0)) gNil)))) (ta := tCons (tVar 1) tNil) lk hcd S T hcell hcode hvs hfile F.top F.sup har (by rw [hsf]; rfl) (fun vs H Q E h => ?_) (fun A outer s H xe => ?_) (fun A outer s H xe => ?_) (fun L => cw1) hcl (fun L => by rfl) fun vs H Q E h => ?_
  · obtain ⟨a, v, rfl, _⟩ := h; rfl
  · have hw : swappedStores [.Tuple [.Attribute (.Name "self" q1) "code" q2, .Attribute (.Name "self" q3) x q4] k1 q5] (.Tuple [.Constant (.str nm) k2 q6, .Name x q7] k3 q8) (supCx P w K mg base ["self", x] qual scope f cda cc A outer s H xe).env = pure none := by
      unfold swappedStores
      have hb : (supCx P w K mg base ["self", x] qual scope f cda cc A outer s H xe).env.blockKind = .function := by
        have hk : (supCx P w K mg base ["self", x] qual scope f cda cc A outer s H xe).env.scope.kind = .function := S.kind
        simp [Env.blockKind, hk, ScopeKind.isAnnotationScope]
      simp [hb]
    exact ps_asg (hw := hw) (pe_tup (pa_cons pe_str (pa_cons (pe_var (i := 1) rfl (.inl px) hx hx2) pa_nil))) (pg_tup rfl (pgs_cons (pg_ost (pe_var (i := 0) rfl (.inl ps))) (pgs_cons (pg_ost (pe_var (i := 0) rfl (.inl ps))) pgs_nil)))
  · exact pa_cons (pe_var (i := 1) rfl (.inl px) hx hx2) pa_nil
  · obtain ⟨a, v, rfl, ha, h⟩ := h
    refine ⟨a, rfl, t1_ok T h1 h2 ha fun H' st => ?_⟩
    obtain ⟨_, d, _, _, e1, _⟩ := id st
    exact ⟨⟨some d, rfl, e1⟩, v, rfl, by show 1 ≤ 1000; decide, ⟨some d, e1⟩, h H' st⟩
end
section
variable {X : Cx} {B newId initId : String} {bmB : List Value} {x : Str} {C fI : Addr} {k : Nat} {fd : FuncData} {ps : List Str} {sp : Sp} {p pos : Pos} {es : List Expr} {ta : TA}
/-- the two objects that the making lays first -/
theorem exc_laid {pins : List (Addr × Obj)} {σ : L2.St} {H : Hp} {s : Shared} (I : Inv X pins σ H s) (us : List Value) : (∀ b o, s.heap.get? b = some o → ((s.heap.push (PySem.W.kdv_tup us)).push (PySem.HandSPX.excO C s.heap.objs.size)).get? b = some o) ∧ H (s.heap.objs.size + 1) = none ∧
    Inv X pins σ (upd H (s.heap.objs.size + 1) (exo (s.heap.objs.size + 1) C none)) { s with heap := (s.heap.push (PySem.W.kdv_tup us)).push (PySem.HandSPX.excO C s.heap.objs.size) } := by
  have up : ∀ b o, s.heap.get? b = some o → ((s.heap.push (PySem.W.kdv_tup us)).push (PySem.HandSPX.excO C s.heap.objs.size)).get? b = some o := fun b o e => Heap.get?_push_of_some _ (Heap.get?_push_of_some _ e)
  refine ⟨up, I.hok.fresh (Nat.le_succ _), I.laid (t' := s.toks) up (Nat.le_succ _) (exo_ok (t1 := s.heap.objs.size) ?_)⟩
  heap_get
/-- C(..), an exception that is raised at once -/
theorem pmk_exG (T : OexG X.K B newId initId bmB C) (iC : PySem.W.findIn X.K (.ref C) "__init__" = some (some (.ref fI))) (tI : PySem.W.typeIn X.K (.ref fI) = some (.type "function"))
    (F1 : FnOk X.prog X.w X.K X.mg X.base (L2.CX X.prog X.w) k fI fd ps sp) (hr : Room (k + 1) X.A) (hb : Binds X.K fd ps []) (hg : Gl X x) (hm : X.mg x = some (.ref C)) (ha : PA X es ta)
    (hcw : ∀ {Q : Value → Shared → Prop} {s : Shared}, X.K.In X.base → wpAny (model X.prog X.w) X.A (spliced (backTo pos (starEach es X.env))) (fun us s1 => X.K.In s1.heap ∧ wpAny (model X.prog X.w) X.A (call (.ref C) us) Q X.xe s1) X.xe s → wpAny (model X.prog X.w) X.A (callWith pos (.ref C) [] (backTo pos (starEach es X.env)) []) Q X.xe s)
    (hdb : (x == ("__debug__" : Str)) = false := by decide) : PMk X (.Call (.Name x p) es [] pos) (tMkO C sp [] ta) := fun pins s σ H Q I h => by
  refine wpAny_Call_Name_kw (ld_glob I hg hm (hcw I.ok.mod.kin (thn (ha.run pos pins s σ H _ I h) fun us s1 w => ?_)) hdb)
  obtain ⟨vs, H1, I1, rv, few, pr⟩ := w
  refine ⟨I1.kIn, ?_⟩
  obtain ⟨up, fr, I2⟩ := exc_laid (C := C) I1 us
  have pr := pr _ fr
  rw [List.append_nil] at pr
  have ra : Vals (V.ref (s1.heap.objs.size + 1) :: vs) (Value.ref (s1.heap.objs.size + 1) :: us) := .cons rfl rv
  have ln : (Value.ref (s1.heap.objs.size + 1) :: us).length = ps.length := ra.length.symm.trans (F1.len _ _ _ _ pr)
  have bt := hb _ _ I2.kIn (by rw [List.append_nil]; exact ln)
  rw [List.append_nil] at bt
  obtain ⟨_, _, _, _, _, _, _, _, _, _, _, _, _, _, _, _, hC, hT⟩ := PySem.W.excInit_of I1.kIn T.ini
  have run := F1.run _ X.stack _ _ ⟨Value.ref (s1.heap.objs.size + 1) :: us, []⟩ _ _ _ _ (hr.make C us []) (I2.env0.make C us []) bt ra pr
  obtain ⟨hp, gs, dr, tk, os⟩ := s1
  refine wpAny_call (PySem.HandSPX.call_own T.eb.F hT hC (PySem.W.looks_findIn I1.kIn iC) (fun self => PySem.W.bind_fn I1.kIn self tI) (by rw [← rv.length, sizeLine_eq]; omega) (codeAny_mono run fun r s' z => ?_))
  match r, z with
  | .error er, z => exact passL pins σ _ _ er s' I2 z
  | .ok (.ret u), z =>
    obtain ⟨v, H2, o2, b2, un, ok, ru, rfl, d, fs, e1, e2, e3, q⟩ := z
    exact ⟨ru, L2.mk_end (raises_own T.exC T.tyC) I1 (Nat.le_succ _) up un ok o2 b2 e1 e2 e3 q⟩
  | .ok .next, z => exact (show False from z).elim
  | .ok .brk, z => exact (show False from z).elim
  | .ok .cont, z => exact (show False from z).elim
end
end EXX
end
section
set_option Elab.async false
set_option linter.all false
set_option autoImplicit false
set_option maxRecDepth 100000
set_option maxHeartbeats 4000000
namespace EXX
open PySem PySem.Spec PyProof.Rows L2
section
variable {X : Cx} {pins : List (Addr × Obj)} {σ : L2.St} {H : Hp} {s : Shared} {a : Addr} {o : HO}
/-- an untracked object of ours is told from now on -/
theorem track (I : Inv X pins σ H s) (na : H a = none) (n0 : X.s_0.heap.get? a = none) (nL : a ≠ X.env.locals) (nC : ∀ x c, X.env.cells.lookup x = some c → c ≠ a) (np : ∀ p ∈ X.pn ++ pins, p.1 ≠ a) (new : ObjOk X.prog X.w (upd H a o) s.heap a o) : Inv X pins σ (upd H a o) s := by
  have ne : ∀ {b : Addr} {u : HO}, H b = some u → b ≠ a := fun {b u} e z => by rw [z, na] at e; cases e
  refine ⟨I.ok, I.os, I.bare, ⟨fun b u e n h1 h2 => I.base.keep b u e n h1 h2, fun b u e n h1 h2 => I.base.slot b u e n h1 h2, fun b u e n hx => ?_, I.base.there, fun b xs e => ?_, fun b u v e => ?_, fun b ps e => ?_⟩, I.loc, I.cell, ?_, fun x c e => ?_, fun p hp => ?_, fun b u e => ?_, I.len⟩
  · rw [upd_ne (fun z => by rw [z, n0] at e; cases e)]; exact I.base.free b u e n hx
  · have q := I.base.tups b xs e; rw [upd_ne (ne q)]; exact q
  · have q := I.base.frzs b u v e; rw [upd_ne (ne q)]; exact q
  · obtain ⟨m, q⟩ := I.base.tbls b ps e; exact ⟨m, by rw [upd_ne (ne q)]; exact q⟩
  · rw [upd_ne (Ne.symm nL)]; exact I.free
  · rw [upd_ne (nC x c e)]; exact I.freeC x c e
  · obtain ⟨e, n, r1, r2, r3⟩ := I.pin p hp
    exact ⟨e, by rw [upd_ne (np p hp)]; exact n, r1, r2, r3⟩
  · by_cases hb : b = a
    · subst hb
      rw [upd_same] at e
      cases e
      exact new
    · rw [upd_ne hb] at e
      exact (I.hok b u e).stay (fun _ _ _ q => q) (fun c q => by rw [upd_ne (ne q)]; exact q) fun c xs q => by rw [upd_ne (ne q)]; exact q
end
theorem exv_ok {P : Program} {w : World} {H : Hp} {h : Heap} {a C d : Addr} {oe : Obj} {vs : Array Value} (e : h.get? a = some oe) (z : Zc (.ref C) (some d) oe) (q : oe.data = .fields vs) : ObjOk P w H h a (DL.Exv C d a) :=
  ⟨⟨oe, vs, e, z.1, z.2, q⟩, ⟨oe, e⟩, fun _ _ ⟨o, v, e, r⟩ k => ⟨o, v, k o e, r⟩⟩
/-- e.f, e an exception that is told -/
def tXv (K : PySem.W.Frag) (f : Str) (te : TE) : TE := fun σ H Q => te σ H fun x H1 => ∃ (a C d : Addr) (fs : List (Str × V)) (v : V), x = .ref a ∧ H1 a = some (DL.Exv C d a) ∧ XfC K C ∧ PySem.W.findIn K (.ref C) f = some none ∧ H1 d = some (.xd fs) ∧ fs.lookup f = some v ∧ Q v H1
theorem pe_xv {X : Cx} {e : Expr} {te : TE} {pos : Pos} {n : Str} (he : PE X e te) (hb : attributeBase e n X.env (eval e X.env) = eval e X.env := by rfl) : PE X (.Attribute e n pos) (tXv X.K n te) := by
  refine ⟨fun pins s σ H Q I h => ?_⟩
  refine attr_of hb (thn (he.run pins s σ H _ I h) fun u s1 hh => ?_)
  obtain ⟨x, H1, I1, rx, a, C, d, fs, v, ex, ha, T, hno, ed, l, q⟩ := hh
  subst ex
  obtain rfl : u = Value.ref a := rx
  have hA : ObjOk X.prog X.w H1 s1.heap a (DL.Exv C d a) := I1.hok a _ ha
  obtain ⟨⟨oe, vs, ho, hc, hd, hdt⟩, _⟩ := hA
  have hx : ObjOk X.prog X.w H1 s1.heap d (.xd fs) := I1.hok d _ ed
  obtain ⟨mA, hns, hr⟩ := hx
  obtain ⟨od, hod, hl⟩ := lookIn_ns hns
  obtain ⟨u, hu, ru⟩ := RelO.some_of (v := v) (o := mA n) (by rw [← l]; exact hr n)
  have J : PySem.W.InstAt s1.heap a oe C (some od) := ⟨ho, hc, by unfold PySem.W.notCls; rw [hdt] <;> rfl, by rw [hd]; exact hod⟩
  exact HandSPX.exc_get I1.kIn J T.ga T.gg T.exC (PySem.W.findObj_own T.hdC hno rfl (by rw [hl, hu])) (handed_of ru) ⟨v, H1, I1.tok _, ru, q⟩
/-- what the clause wishes of an exception of the body: slot i is n's, m slots there are -/
def wT (K : PySem.W.Frag) (m : Nat) (cs : List Value) (i : Nat) (ts : Addr → TS) (Wout : WX) (D : Ends) : WX := fun cls d σ H => ∃ b, PySem.W.exmAny K cls cs = some b ∧ (b = false → Wout cls d σ H) ∧
  (b = true → ∃ C dd, cls = .ref C ∧ d = some dd ∧ ∀ a, H a = none → σ.length = m → ts a ⟨fun σ' H' => D.nx (σ'.set i none) H', D.rt, fun σ' H' => D.bk (σ'.set i none) H', fun σ' H' => D.ct (σ'.set i none) H'⟩ (σ.set i (some (.ref a))) (upd H a (DL.Exv C dd a)))
/-- the exception flies on over a heap that only grew -/
theorem fly_up {B h h' : Heap} {l : List Env} {a : Addr} {Z : Obj → Prop} (f : HandSPX.FlyingZ B l a Z h) (k : ∀ b o, h.get? b = some o → h'.get? b = some o) : HandSPX.FlyingZ B l a Z h' := by
  obtain ⟨st, nw, fr, tr⟩ := f
  obtain ⟨o, vs, T, oT, us, a1, a2, a3, a4, a5, a6, a7, a8, a9⟩ := tr
  exact ⟨fun b q e => k b q (st b q e), nw, fr.of_keeps fun b q e _ => ⟨q, k b q e, rfl⟩, o, vs, T, oT, us, k _ _ a1, a2, a3, a4, a5, a6, k _ _ a7, a8, a9⟩
/-- what an except suite runs in, nothing pinned for it -/
theorem to_suite {X : Cx} {pins : List (Addr × Obj)} {σ : L2.St} {H : Hp} {s : Shared} (a : Addr) (I : Inv X pins σ H s) : Inv (X.suite a (X.pn ++ pins)) [] σ H s where
  ok := I.ok.suite a _
  os := I.os
  bare := I.bare
  base := I.base
  loc := I.loc
  cell := I.cell
  free := I.free
  freeC := I.freeC
  pin := fun p h => I.pin p (by simpa using h)
  hok := I.hok
  len := I.len
theorem of_suite {X : Cx} {pins : List (Addr × Obj)} {σ : L2.St} {H : Hp} {s : Shared} {a : Addr} (ok : X.Ok) (I : Inv (X.suite a (X.pn ++ pins)) [] σ H s) : Inv X pins σ H s where
  ok := ok
  os := I.os
  bare := I.bare
  base := I.base
  loc := I.loc
  cell := I.cell
  free := I.free
  freeC := I.freeC
  pin := fun p h => I.pin p (List.mem_append_left _ h)
  hok := I.hok
  len := I.len
/-- an exception of the body as it comes to the clauses: over each heap in which it flies our state stands, and it is none of ours -/
structure Comes (X : Cx) (pins : List (Addr × Obj)) (σ : L2.St) (H : Hp) (s' : Shared) (a : Addr) (cls : Value) (d : Option Addr) (B : Heap) : Prop where
  sky : Sky B (X.env :: X.outer) a (Zc cls d) X.env.locals s'.heap
  new : H a = none
  len : σ.length = X.N.length
  fly : ∀ h, HandSPX.FlyingZ B (X.env :: X.outer) a (Zc cls d) h → s'.heap.UpToSlots h → Inv X pins σ H { s' with heap := h } ∧ X.s_0.heap.get? a = none ∧ a ≠ X.env.locals ∧ (∀ x c, X.env.cells.lookup x = some c → c ≠ a) ∧ ∀ p ∈ X.pn ++ pins, p.1 ≠ a
  on : ∀ h, HandSPX.HeldZ B (X.env :: X.outer) a (Zc cls d) X.env.locals h → s'.heap.UpToSlots h → ∀ W : WX, Takes X W → W cls d σ H → X.xe (.ref a) { s' with heap := h }
theorem comes {X : Cx} {pins pl : List (Addr × Obj)} {W : WX} {u : Value} {s' : Shared} {xe : Value → Shared → Prop} (ok : X.Ok) (hex : X.ex = []) (hs : X.stack = X.env :: X.outer) (hf : X.env.frame = some X.env.locals) (hx : XE (X.tr (X.pn ++ pins) xe) W u s') :
    ∃ a cls d σ H B, u = .ref a ∧ W cls d σ H ∧ Comes X pins σ H s' a cls d B := by
  obtain ⟨a, B, sI, p', σ, H, cls, d, rfl, I', gr, up, sky, na, os, ag, w⟩ := hx
  have I : Inv X pins σ H sI := I'.ofTry ok
  have sk : Sky B (X.env :: X.outer) a (Zc cls d) X.env.locals s'.heap := by have z := sky; rw [← hs]; exact z
  refine ⟨a, cls, d, σ, H, B, rfl, w, sk, na, I.len, fun h fl uh => ?_, fun h hd uh W' tk w' => tk _ _ ⟨a, B, sI, pins, σ, H, cls, d, rfl, I, gr, up.trans uh, .inr (.inr (by rw [hs]; exact hd)), na, os, ag, w'⟩⟩
  have J : Inv X pins σ H { s' with heap := h } := I.landed gr fl.1 (up.trans uh) os ag
  obtain ⟨o, vs, eo, -, ed⟩ := fl.there
  have out : a ∉ frs (X.env :: X.outer) := fun hm => by
    obtain ⟨_, o', eo', nf⟩ := fl.2.2.1.mem hm
    cases eo.symm.trans eo'
    exact nf vs ed
  have inI : sI.heap.get? a = none := Option.eq_none_iff_forall_ne_some.mpr fun o' e => by
    have z := gr a o' e (by rw [hs]; exact out)
    cases fl.2.1.symm.trans z
  refine ⟨J, Option.eq_none_iff_forall_ne_some.mpr fun o' e => ?_, fun z => out (List.mem_filterMap.mpr ⟨X.env, List.mem_cons_self, by rw [hf, z]⟩), fun x c e z => ?_, fun p hp z => ?_⟩
  · obtain ⟨_, q⟩ := I.base.there a o' e (by simp [hex])
    cases inI.symm.trans q
  · obtain ⟨v, oc, ec, dc⟩ := J.cell x c e
    subst z
    cases eo.symm.trans ec
    cases ed.symm.trans dc
  · have q := (I.pin p hp).1
    rw [z] at q
    cases inI.symm.trans q
section
variable {X : Cx} {x1 x2 x3 n : Str} {c1 c2 c3 : Value} {i kt : Nat} {body suite : List Stmt} {b₀ : Stmt} {np1 np2 np3 ptp pos pos' : Pos} {tb : WX → TS} {ts : Addr → TS} {Wout : WX}
theorem names_eval {pins : List (Addr × Obj)} {σ : L2.St} {H : Hp} {s : Shared} {x : Str} {c : Value} {p : Pos} {a : Addr} {Q : Value → Shared → Prop} {E : Value → Shared → Prop} (I : Inv X pins σ H s) (hc : Names X x c) (q : Q c s) : wpAny (model X.prog X.w) (X.A.mark (some (.ref a))) (eval (.Name x p) X.env) Q E s := by
  rcases hc with ⟨hg, hd, ⟨hm⟩ | ⟨hm, hv, hn⟩⟩
  · exact ld_glob (X := X.suite a (X.pn ++ pins)) (to_suite a I) hg hm q hd
  · exact ld_blt (X := X.suite a (X.pn ++ pins)) (to_suite a I) hg hm hv q hn hd
theorem ps_tryT (hex : X.ex = []) (hs : X.stack = X.env :: X.outer) (hf : X.env.frame = some X.env.locals) (hN : X.N.Nodup) (hi : X.N[i]? = some n) (hln : X.env.kindOf n = some .local) (hc1 : Names X x1 c1) (hc2 : Names X x2 c2) (hc3 : Names X x3 c3) (tk : Takes X Wout)
    (hb : ∀ (W : WX) (pn : List (Addr × Obj)) (xe : Value → Shared → Prop), Takes (X.tr pn xe) W → PSs (X.tr pn xe) body (tb W)) (hsu : ∀ (a : Addr) (pn : List (Addr × Obj)), PSs (X.suite a pn) (b₀ :: suite) (ts a)) :
    PS X (.Try body [.ExceptHandler (some (.Tuple [.Name x1 np1, .Name x2 np2, .Name x3 np3] kt ptp)) (some n) (b₀ :: suite) pos'] [] [] pos) (fun D σ H => tb (wT X.K X.N.length [c1, c2, c3] i ts Wout D) D σ H) := ⟨fun pins s σ H D I h => by
  have ok := I.ok
  have W := (hb (wT X.K X.N.length [c1, c2, c3] i ts Wout D) (X.pn ++ pins) (fun e s₁ => wpAny (model X.prog X.w) X.A (noteFrame e X.env) (fun _ s₂ => wpAny (model X.prog X.w) X.A (setFlight e none) (fun _ s₃ =>
    wpAny (model X.prog X.w) X.A (handleBy e X.env [.ExceptHandler (some (.Tuple [.Name x1 np1, .Name x2 np2, .Name x3 np3] kt ptp)) (some n) (b₀ :: suite) pos']) (SP X pins D) X.xe s₃) X.xe s₂) X.xe s₁) ?_).run [] s σ H D (I.toTry _) h
  · refine wpAny_Try_except (wpAny_mono W (fun f s1 hp => ?_) fun _ _ z => z)
    match f, hp with
    | .next, ⟨σ', H', J, q⟩ => exact wpAny_execs_nil ⟨σ', H', J.ofTry ok, q⟩
    | .brk, ⟨σ', H', J, q⟩ => exact ⟨σ', H', J.ofTry ok, q⟩
    | .cont, ⟨σ', H', J, q⟩ => exact ⟨σ', H', J.ofTry ok, q⟩
    | .ret u, ⟨v, σ', H', J, r, q⟩ => exact ⟨v, σ', H', J.ofTry ok, r, q⟩
  intro u s' hx
  obtain ⟨a, cls, d, σ', H', B, rfl, ⟨b, hm, hno, hyes⟩, c⟩ := comes (pl := []) ok hex hs hf hx
  show wpAny (model X.prog X.w) X.A (noteFrame (.ref a) X.env) _ _ _
  refine Sky.land Zc.steady (by rw [ok.frames, hs]) hf c.sky fun h1 f1 u1 => ?_
  have J1 := (c.fly h1 f1 u1).1
  refine wpAny_handleBy_cons (codeAny_handlers_test (wpAny_Tuple_spliced ?_)) (by intro q; cases q)
  show wpAny _ _ (spliced ((false, eval (.Name x1 np1) X.env) :: (false, eval (.Name x2 np2) X.env) :: (false, eval (.Name x3 np3) X.env) :: [])) _ _ _
  refine Calls.spliced_cons (names_eval J1 hc1 (Calls.spliced_cons (names_eval J1 hc2 (Calls.spliced_cons (names_eval J1 hc3 (Calls.spliced_nil ⟨by show 3 ≤ sizeLine; rw [sizeLine_eq]; decide, ?_⟩))))))
  have gr : ∀ b o, h1.get? b = some o → (h1.push { cls := .type "tuple", data := .seq [c1, c2, c3].toArray }).get? b = some o := fun b o e => Heap.get?_push_of_some _ e
  have f2 := fly_up f1 gr
  have u2 := u1.trans (Heap.UpToSlots.of_keeps gr)
  obtain ⟨oe, vs, eo, ez, -⟩ := f2.there
  have look := PySem.W.exm_tup3 (M := model X.prog X.w) (c.fly _ f2 u2).1.kIn (fun A Q E s k q => wpAny_typeOf_ref (k _ _ eo) (by rw [ez.1]; exact q)) (Heap.get?_push_size h1 rfl) hm
  refine look.here ?_
  cases b with
  | false =>
    show wpAny _ X.A (handleBy (.ref a) X.env []) _ _ _
    obtain ⟨_, _, _, o, ws, T, oT, us, a1, a2, a3, a4, _⟩ := id f2
    refine wpAny_handleBy_nil ?_
    unfold PySem.passOn
    refine wpAny_bind (wpAny_field a1 a3 a4 ?_)
    rw [if_neg (by simp)]
    have fin : wpAny (model X.prog X.w) X.A (setFlight (.ref a) X.env.frame) (fun _ s4 => wpAny (model X.prog X.w) X.A (throw (.ref a) : Sem Flow) (SP X pins D) X.xe s4) X.xe { s' with heap := h1.push { cls := .type "tuple", data := .seq [c1, c2, c3].toArray } } := by
      rw [hf]
      exact HandSPX.setFlight_upZ f2 fun h3 hh u3 => wpAny_throw (c.on h3 hh (u2.trans u3) Wout tk (hno rfl))
    first | exact wpAny_bind (wpAny_pure (wpAny_bind fin)) | exact wpAny_bind fin
  | true =>
    obtain ⟨C, dd, rfl, rfl, go⟩ := hyes rfl
    refine codeAny_handlers_suite_as (HandSPX.lands_againZ f2 fun h3 f3 u3 => ?_)
    obtain ⟨J3, n0, nL, nC, np⟩ := c.fly h3 f3 (u2.trans u3)
    obtain ⟨o3, v3, e3, z3, d3⟩ := f3.there
    have T3 := track J3 c.new n0 nL nC np (exv_ok e3 z3 d3)
    refine store_ok (X := X.suite a (X.pn ++ pins)) (v := .ref a) (to_suite a T3) hN hi (.inl hln) rfl (fun s4 S4 => ?_) (.inr hln)
    have run := (hsu a (X.pn ++ pins)).run [] s4 _ _ _ S4 (go a c.new c.len)
    refine wpAny_mono run (fun f s5 hp => ?_) (fun _ _ z => z.elim)
    have leave : ∀ {τ : L2.St} {H5 : Hp} {Q : Shared → Prop}, Inv (X.suite a (X.pn ++ pins)) [] τ H5 s5 → (∀ s6, Inv X pins (τ.set i none) H5 s6 → Q s6) → wpAny (model X.prog X.w) X.A (do bindName X.env n .none; unbindBehindTheSuite X.env n pos') (fun _ s6 => Q s6) X.xe s5 :=
      fun S k => gone_ok (of_suite ok S) hN hi hln k
    match f, hp with
    | .next, ⟨τ, H5, S, q⟩ => exact leave S fun s6 J => ⟨_, _, J, q⟩
    | .brk, ⟨τ, H5, S, q⟩ => exact leave S fun s6 J => ⟨_, _, J, q⟩
    | .cont, ⟨τ, H5, S, q⟩ => exact leave S fun s6 J => ⟨_, _, J, q⟩
    | .ret u, ⟨v, τ, H5, S, r, q⟩ => exact leave S fun s6 J => ⟨_, _, _, J, r, q⟩⟩
end
end EXX
end
section
set_option Elab.async false
set_option linter.all false
set_option autoImplicit false
set_option maxRecDepth 100000
set_option maxHeartbeats 4000000
namespace EXX
open PySem PySem.Spec PyProof.Rows L2
/-- what a def promises wherever it is called -/
structure FnQ (P : Program) (w : World) (K : PySem.W.Frag) (mg : Str → Option Value) (base : Heap) (k : Nat) (f : Addr) (fd : FuncData) (ps : List Str) (sp : Sp) : Prop where
  len : ∀ vs H Q E, sp vs H Q E → vs.length = ps.length
  run : ∀ (A : Around) (outer : List Env) (s : Shared) (H : Hp) (args : Args) (us : List Value) (vs : List V) (Q : VK), L2H.RoomH k A → Env0 P w K mg base A outer s H → BindsTo s fd args (ps.zip us) → Vals vs us → sp vs H Q E0 →
    codeAny (model P w) A (.call (.ref f) args) (CR C8.CX0 outer P w H s Q C8.E0) s
def cxQ (P : Program) (w : World) (K : PySem.W.Frag) (mg : Str → Option Value) (base : Heap) (N : List Str) (qual : Str) (scope : Scope) (f : Addr) (cd : Value) (A : Around) (outer : List Env) (s : Shared) (H : Hp) : Cx :=
  { cxOf C8.CX0 P w K mg base N qual scope f cd A outer s H C8.E0 with calm := false, xe := fun _ _ => False }
section
variable {P : Program} {w : World} {K : PySem.W.Frag} {mg : Str → Option Value} {base : Heap} {N ps : List Str} {qual : Str} {scope : Scope} {f : Addr} {cd : Value} {A : Around} {outer : List Env} {s s1 : Shared} {H : Hp} {us : List Value} {vs : List V}
def noH (A : Around) : Around := { A with handled := none }
theorem env_mark (e : Env0 P w K mg base A outer s H) : Env0 P w K mg base (noH A) outer s H where
  frames := e.frames
  mod := e.mod
  bs := e.bs
  bsz := e.bsz
  funs := e.funs
  frf := e.frf
  hok := e.hok
  bare := e.bare
/-- the state at such a def's entry: as if nothing were handled -/
theorem startQ (S : FnScope N ps scope) (e : Env0 P w K mg base A outer s H) (hl : vs.length = ps.length) (r : Vals vs us) (x : InCallC s s.heap.objs.size (bindL (envOfC qual scope s.heap.objs.size f cd).kindOf (ps.zip us) fun _ => none) (cellsFrom (s.heap.objs.size + 1) scope.names []) (bindC (envOfC qual scope s.heap.objs.size f cd).kindOf (ps.zip us) fun _ => none) s1) :
    Inv (cxQ P w K mg base N qual scope f cd A outer s H) [] (L2.start N vs) H s1 := by
  have J : Inv (cxOf C8.CX0 P w K mg base N qual scope f cd (noH A) outer s H C8.E0) [] (L2.start N vs) H s1 := inv_start S rfl (env_mark e) hl r x
  have o := J.ok
  exact ⟨⟨o.mod, o.kind, o.glob, o.blt, o.above, o.inj, o.has, o.cab, fun z => Bool.noConfusion (show false = true from z), o.frames, o.stk, o.exf, o.bs, o.bsz, o.noex, o.exfs, o.funs, o.frf⟩, J.os, J.bare, J.base, J.loc, J.cell, J.free, J.freeC, J.pin, J.hok, J.len⟩
theorem fn_ofQ {k : Nat} {name qual : Str} {params : Arguments} {body : List Stmt} {dV kV doc pm cdv ct oc : Value} {an od : Option Addr} {osl : Array (Option Value)} {sp : Sp} (lk : K.lookup f = some ⟨oc, od, .func (PySem.W.fnOf name qual params body scope dV kV doc pm an cdv ct), osl⟩) (hcd : PySem.W.codeIn K cdv qual = true) (S : FnScope N ps scope)
    (ln : ∀ vs H Q E, sp vs H Q E → vs.length = ps.length)
    (hbody : ∀ (A : Around) (outer : List Env) (s : Shared) (H : Hp) (vs : List V) (Q : VK), L2H.RoomH k (A.deeper (envOfC qual scope s.heap.objs.size f cdv)) → sp vs H Q E0 → ∃ t, PSs (cxQ P w K mg base N qual scope f cdv A outer s H) body t ∧ t { nx := fun _ H' => Q .non H', rt := Q } (L2.start N vs) H) :
    FnQ P w K mg base (k + 1) f (PySem.W.fnOf name qual params body scope dV kV doc pm an cdv ct) ps sp where
  len := ln
  run := fun A outer s H args us vs Q room e bt rv pr => by
    have up : ∀ b o, base.get? b = some o → s.heap.get? b = some o := fun b o q => (e.bs b o q).1
    have kin := e.mod.kin.keeps up
    refine codeAny_call_function room.depth (kin _ _ lk) rfl S.co S.gen rfl (PySem.W.codeRec_of kin hcd) (bt _ _ _ _ (wpAny_newFunctionEnv_cells S.kind (fun y hy => ?_) fun env he s1 x => ?_))
    · rcases S.par y.1 (List.of_mem_zip (show (y.1, y.2) ∈ ps.zip us from hy)).1 with q | q
      · exact .inl q
      · exact .inr ⟨q, PySem.W.cellsFrom_some _ _ _ (.inl q)⟩
    subst he
    obtain ⟨t, ht, q⟩ := hbody A outer s H vs Q (room.deeper _) pr
    refine ⟨(e.mod.nolimit.keeps up).keeps x.toInCall.keep, codeAny_func (wpAny_mono (ht.run [] s1 (L2.start N vs) H _ (startQ S e (ln _ _ _ _ pr) rv x) q) (fun fl s2 z => ?_) fun _ _ z => (show False from z).elim)⟩
    match fl, z with
    | .ret u, ⟨v, σ', H', J, ru, q⟩ => exact ⟨v, H', J.os, J.bare, J.base, J.hok, ru, q⟩
    | .next, ⟨σ', H', J, q⟩ => exact ⟨.non, H', J.os, J.bare, J.base, J.hok, rfl, q⟩
    | .brk, ⟨_, _, _, q⟩ => exact (show False from q).elim
    | .cont, ⟨_, _, _, q⟩ => exact (show False from q).elim
end
section
variable {X : Cx} {k : Nat} {f : Addr} {fd : FuncData} {ps : List Str} {sp : Sp} {x : Str} {q pos : Pos} {e : Expr} {es : List Expr} {t : TA}
/-- called anywhere -/
theorem pe_callQ (F : FnQ X.prog X.w X.K X.mg X.base k f fd ps sp) (room : L2H.RoomH k X.A) (hg : Gl X x) (hm : X.mg x = some (.ref f)) (hk : PySem.W.keepIn X.K (.ref f) = true) (hb : Binds X.K fd ps []) (ha : PA X (e :: es) t) (hdb : (x == ("__debug__" : Str)) = false := by decide)
    (he : starEach (e :: es) X.env = (false, eval e X.env) :: starEach es X.env := by rfl) (hpl : (backTo pos (starEach es X.env)).any (·.1) = false := by rfl) : PE X (.Call (.Name x q) (e :: es) [] pos) (tCall sp [] E0 t) := ⟨fun pins s σ H Q I h => by
  refine wpAny_Call_Name_kw (ld_glob I hg hm (PySem.W.callWith_K (h₀ := X.base) I.ok.mod.kin hk (thn (ha.run pos pins s σ H _ I h) fun us s1 w => ?_) he hpl) hdb)
  obtain ⟨vs, H1, I1, rv, pr⟩ := w
  have pr : sp (vs ++ []) H1 Q E0 := pr
  rw [List.append_nil] at pr
  have bt := hb s1 us I1.kIn (by rw [List.append_nil, ← rv.length]; exact F.len _ _ _ _ pr)
  rw [List.append_nil] at bt
  refine ⟨I1.kIn, wpAny_call (codeAny_mono (F.run X.A X.stack s1 H1 ⟨us, []⟩ us vs Q room I1.env0 bt rv pr) fun r s2 z => ?_)⟩
  match r, z with
  | .error _, z => exact (show False from z).elim
  | .ok (.ret u), z => exact I1.after z
  | .ok .next, z => exact (show False from z).elim
  | .ok .brk, z => exact (show False from z).elim
  | .ok .cont, z => exact (show False from z).elim⟩
end
/-- try: return ("", a()) / except (A, B, C) as e: return (e.code, y(e)) -/
def TTry (K : PySem.W.Frag) (cs : List Value) (spf : Sp) : (XK → Hp → VK → Prop) → Hp → VK → Prop := fun tl H Q =>
  tl (fun cls d H' => ∃ C dd, cls = .ref C ∧ d = some dd ∧ PySem.W.exmAny K cls cs = some true ∧ XfC K C ∧ PySem.W.findIn K (.ref C) "code" = some none ∧ ∃ fs vc, H' dd = some (.xd fs) ∧ fs.lookup ("code" : Str) = some vc ∧ ∀ a, H' a = none →
      spf [.ref a] (upd H' a (DL.Exv C dd a)) (fun vf H2 => ∀ p, H2 p = none → Q (.ref p) (upd H2 p (.tup [vc, vf]))) E0)
    H (fun v H' => ∀ p, H' p = none → Q (.ref p) (upd H' p (.tup [.str "", v])))
theorem try_gives {X : Cx} {Ng : List Str} {x a e y q x1 x2 x3 : Str} {sg : Scope} {g fy : Addr} {cdg c1 c2 c3 : Value} {k j k0 k1 k2 : Nat} {fd : FuncData} {ps : List Str} {spf : Sp} {pc p1 p2 pt p3 n1 n2 n3 pt2 q1 q2 q3 q4 q5 q6 q7 p7 p8 : Pos} (hNg : Ng.Nodup) (hN1 : Ng[1]? = some e) (hle : sg.names.lookup e = some .local)
    (h1 : sg.names.lookup x1 = some .globalImplicit) (h2 : sg.names.lookup x2 = some .globalImplicit) (h3 : sg.names.lookup x3 = some .globalImplicit) (m1 : X.mg x1 = some c1) (m2 : X.mg x2 = some c2) (m3 : X.mg x3 = some c3)
    (hy : sg.names.lookup y = some .globalImplicit) (my : X.mg y = some (.ref fy)) (ky : PySem.W.keepIn X.K (.ref fy) = true) (F : FnQ X.prog X.w X.K X.mg X.base k fy fd ps spf) (hb : Binds X.K fd ps []) (hr : Room (k + 1) X.A) (h0 : ∀ f : Addr, (L2.start Ng [V.ref f])[0]? = some (some (V.ref f)))
    (d1 : (x1 == ("__debug__" : Str)) = false := by decide) (d2 : (x2 == ("__debug__" : Str)) = false := by decide) (d3 : (x3 == ("__debug__" : Str)) = false := by decide) (d4 : (y == ("__debug__" : Str)) = false := by decide) (d5 : (e == ("__debug__" : Str)) = false := by decide) (d6 : (e == ("__classdict__" : Str)) = false := by decide) :
    LamX.GivesTo X Ng x sg g cdg [.Try [.Return (some (.Tuple [.Constant (.str "") j pc, .Call (.Name a p1) [] [] p2] k0 pt)) p3] [.ExceptHandler (some (.Tuple [.Name x1 n1, .Name x2 n2, .Name x3 n3] k1 pt2)) (some e) [.Return (some (.Tuple [.Attribute (.Name e q1) "code" q2, .Call (.Name y q3) [.Name e q4] [] q5] k2 q6)) q7] p7] [] [] p8] a q (TTry X.K [c1, c2, c3] spf) := by
  intro f c' s H Q tl act hc h
  refine ⟨_, pss_one (ps_tryT (X := (cxOf C8.CX0 X.prog X.w X.K X.mg X.base Ng x sg g cdg X.A X.stack s H C8.E0).nox) (i := 1) (c1 := c1) (c2 := c2) (c3 := c3)
      (tb := fun W D σ H => ∃ Ech : XK, (∀ cls d σ' H', Ech cls d H' → W cls d σ' H') ∧ σ[0]? = some (some (.ref f)) ∧ H c' = some (LamX.CodeO c' q) ∧ tl Ech H (fun v H' => ∀ p, H' p = none → D.rt (.ref p) (upd H' p (.tup [.str "", v]))))
      (ts := fun a => tRet (tTup (tCons (tXv X.K "code" (tVar 1)) (tCons (tCall spf [] E0 (tCons (tVar 1) tNil)) tNil))))
      rfl rfl rfl hNg hN1 hle ⟨h1, d1, .inl m1⟩ ⟨h2, d2, .inl m2⟩ ⟨h3, d3, .inl m3⟩ L2.takes0 (fun W pn xe tk => ?_) (fun a pn => ?_)), ?_⟩
  · refine ⟨fun pins s' σ H' D I h' => ?_⟩
    obtain ⟨Ech, hW, g1, g2, g3⟩ := h'
    have hp := act W pn xe Ech p1 p2 tk hW
    have hq := pss_one (ps_ret (pos := p3) (pe_tup (x1 := k0) (pos := pt) (pa_cons (pe_str (x := "") (j := j) (pos := pc)) (pa_cons hp pa_nil))))
    exact hq.run pins s' σ H' D I ⟨g1, g2, by
      have e2 : (fun v H' => ∀ p, H' p = none → D.rt (.ref p) (upd H' p (.tup [.str "", v]))) = fun v H1 => (2 : Nat) ≤ sizeLine ∧ ∀ p, H1 p = none → D.rt (.ref p) (upd H1 p (.tup [.str "", v])) := by
        funext v H1
        have : (2 : Nat) ≤ sizeLine := by rw [sizeLine_eq]; decide
        simp [this]
      rw [e2] at g3
      exact g3⟩
  · have ve : Vis sg e := .inl hle
    refine pss_one (ps_ret (pe_tup (pa_cons (pe_xv (pe_var (i := 1) hN1 ve d5 d6)) (pa_cons (pe_callQ (k := k) F ?_ hy my ky hb (pa_cons (pe_var (i := 1) hN1 ve d5 d6) pa_nil) d4) pa_nil))))
    have r := L2H.roomH_of (hr.deeper (envOfC x sg s.heap.objs.size g cdg))
    exact ⟨r.dp, r.un⟩
  · refine ⟨fun cls d H' => ∃ C dd, cls = .ref C ∧ d = some dd ∧ PySem.W.exmAny X.K cls [c1, c2, c3] = some true ∧ XfC X.K C ∧ PySem.W.findIn X.K (.ref C) "code" = some none ∧ ∃ fs vc, H' dd = some (.xd fs) ∧ fs.lookup ("code" : Str) = some vc ∧ ∀ a, H' a = none →
      spf [.ref a] (upd H' a (DL.Exv C dd a)) (fun vf H2 => ∀ p, H2 p = none → Q (.ref p) (upd H2 p (.tup [vc, vf]))) E0, fun cls d σ' H' hh => ?_, h0 f, hc, h⟩
    obtain ⟨C, dd, rfl, rfl, x1, x2, x3, fs, vc, x4, x5, x6⟩ := hh
    refine ⟨true, x1, (fun z => by cases z), fun _ => ⟨C, dd, rfl, rfl, fun a na hln => ?_⟩⟩
    have nd : dd ≠ a := fun z => by rw [z, na] at x4; cases x4
    have e1 : (σ'.set 1 (some (.ref a)))[1]? = some (some (.ref a)) := by
      have lt : 1 < Ng.length := (List.getElem?_eq_some_iff.mp hN1).1
      have hln : σ'.length = Ng.length := hln
      rw [List.getElem?_set_self (by omega)]
    refine ⟨.ref a, e1, a, C, dd, fs, vc, rfl, upd_same, x2, x3, by rw [upd_ne nd]; exact x4, x5, .ref a, e1, ?_⟩
    have e3 : (fun vf H2 => ∀ p, H2 p = none → Q (.ref p) (upd H2 p (.tup [vc, vf]))) = fun vf H2 => (2 : Nat) ≤ sizeLine ∧ ∀ p, H2 p = none → Q (.ref p) (upd H2 p (.tup [vc, vf])) := by
      funext v H1
      have : (2 : Nat) ≤ sizeLine := by rw [sizeLine_eq]; decide
      simp [this]
    have z := x6 a na
    rw [e3] at z
    exact z
end EXX
end
section
set_option Elab.async false
set_option linter.all false
set_option autoImplicit false
set_option maxRecDepth 100000
set_option maxHeartbeats 4000000
namespace EXX
open PySem PySem.Spec PyProof.Rows L2
/-- a lambda was made: nothing told changed, or the table at P grew by a new code object -/
def Made (q : Str) (P : Addr) (H H1 : Hp) : Prop := H1 = H ∨ ∃ (ps : Array Value) (c' : Addr) (pos : Pos), H P = some (.tbl ps) ∧ H c' = none ∧ H1 = upd (upd H P (.tbl (ps ++ #[rawInt pos.line, rawInt pos.col, .ref c']))) c' (LamX.CodeO c' q)
section
variable {X : Cx}
/-- the lambda as an object of ours: untracked, its code object told -/
def LamAt (X : Cx) (params : Arguments) (body : Expr) (scope : Scope) (f c' : Addr) (pm ctv : Value) (H : Hp) (s : Shared) : Prop :=
  s.heap.get? f = some (PySem.W.kla_obj "<lambda>" (X.env.qual ++ "<lambda>") params body scope (cloFrom X.env.cells scope.names []) pm c' ctv) ∧ H f = none ∧ f ∉ frs X.stack ∧ H c' = some (LamX.CodeO c' (X.env.qual ++ "<lambda>"))
theorem fresh_fr {pins : List (Addr × Obj)} {σ : L2.St} {H : Hp} {s : Shared} (I : Inv X pins σ H s) {f : Addr} (h : s.heap.objs.size ≤ f) : f ∉ frs X.stack := fun z => by
  rcases List.mem_cons.mp (I.stkSub f z) with e | e
  · exact Nat.lt_irrefl _ (Nat.lt_of_lt_of_le I.lt (by rw [← e]; exact h))
  · exact I.nofs h e
theorem lam_new {pins : List (Addr × Obj)} {σ : L2.St} {H : Hp} {s : Shared} {c P : Addr} {params : Arguments} {body : Expr} {scope : Scope} {pos : Pos} {E : Value → Shared → Prop} {Q : Value → Shared → Prop} (I : Inv X pins σ H s) (TB : LamX.TabB X.base X.mg c P) (hcode : X.env.code = .ref c) (hT : LamX.TabS H P (X.env.qual ++ "<lambda>"))
    (hdef : defaultsOf params X.env = ([], [])) (L : LamX.LamS X.env.scope scope) (h : ∀ f c' pm ctv H1 s', Inv X pins σ H1 s' → Made (X.env.qual ++ "<lambda>") P H H1 → LamAt X params body scope f c' pm ctv H1 s' → Q (.ref f) s') :
    wpAny (model X.prog X.w) X.A (eval (.Lambda params body scope pos) X.env) Q E s := by
  obtain ⟨ps, tP, t3, known⟩ := hT
  have oP : s.heap.get? P = some { cls := .none, data := .fields ps } := I.hok P _ tP
  have hfree := L.has I.ok
  have G := I.mod.glob.keeps I.bk
  refine PySem.W.kla_eval hdef ?_
  rcases hc : codeAmong pos ps.toList with _ | cv
  · refine PySem.W.kla_makeFunction (mg := X.mg) (closure_ok hfree) I.ok.glob G hcode (TB.code.keeps I.bk) oP t3 hc TB.gP (TB.bm.keeps I.bk) fun c' ctv h' tk kx ge lt rc tb => ?_
    obtain ⟨_, o, vs, t, ⟨⟩, r1, r2, r3⟩ := rc
    have big : s.heap.objs.size ≤ h'.objs.size := Nat.le_trans ge (Nat.le_of_lt lt)
    have nc : H c' = none := I.hok.fresh ge
    have J := LamX.inv_table (t' := tk) (q := X.env.qual ++ "<lambda>") (h' := h'.push (PySem.W.kla_obj "<lambda>" (X.env.qual ++ "<lambda>") params body scope (cloFrom X.env.cells scope.names []) ((X.mg "__name__").getD .none) c' ctv)) I tP
      (fun b o nb e => Heap.get?_push_of_some _ (kx b o nb e)) (Heap.get?_push_of_some _ tb) ge ⟨o, vs, t, Heap.get?_push_of_some _ r1, r2, r3⟩
    refine h h'.objs.size c' _ ctv _ _ J (.inr ⟨ps, c', pos, tP, nc, rfl⟩) ⟨Heap.get?_push_size _ rfl, ?_, fresh_fr I big, upd_same⟩
    rw [upd_ne (Nat.ne_of_gt lt), upd_ne (Nat.ne_of_gt (Nat.lt_of_lt_of_le (Heap.lt_size oP) big))]
    exact I.hok.fresh big
  · obtain ⟨c', rfl, told⟩ := known pos cv hc
    refine PySem.W.kla_makeFunctionHit (mg := X.mg) (closure_ok hfree) I.ok.glob G hcode (TB.code.keeps I.bk) oP t3 hc (TB.bm.keeps I.bk) fun ctv h' tk kx big => ?_
    exact h h'.objs.size c' _ ctv H _ (I.kept (t' := tk) fun b o e => Heap.get?_push_of_some _ (kx b o e)) (.inl rfl) ⟨Heap.get?_push_size _ rfl, I.hok.fresh big, fresh_fr I big, told⟩
/-- x(lambda: body): TT says what x makes of the body's reading -/
def tLam3 (P : Addr) (q : Str) (TT : (XK → Hp → VK → Prop) → Hp → VK → Prop) (t : XK → TE) : TE := fun σ H Q => LamX.TabS H P q ∧ ∀ H1, Made q P H H1 → TT (fun E H' Q' => t E σ H' Q') H1 Q
theorem pe_lam3 {TT : (XK → Hp → VK → Prop) → Hp → VK → Prop} {x a : Str} {g c P : Addr} {k : Nat} {pg : Arguments} {bg : List Stmt} {sg : Scope} {dV kV doc pm cdv ct oc : Value} {an od : Option Addr} {osl : Array (Option Value)} {Ng : List Str} {params : Arguments} {body : Expr} {scope : Scope} {t : XK → TE} {p lpos pos : Pos}
    (hg : Gl X x) (hm : X.mg x = some (.ref g)) (hk : PySem.W.keepIn X.K (.ref g) = true) (lk : X.K.lookup g = some ⟨oc, od, .func (PySem.W.fnOf x x pg bg sg dV kV doc pm an cdv ct), osl⟩) (hcg : PySem.W.codeIn X.K cdv x = true) (hb : L2.Binds X.K (PySem.W.fnOf x x pg bg sg dV kV doc pm an cdv ct) [a] [])
    (Sg : FnScope Ng [a] sg) (hNg : Ng[0]? = some a) (hva : Vis sg a) (hG : LamX.GivesTo X Ng x sg g cdv bg a (X.env.qual ++ "<lambda>") TT) (TB : LamX.TabB X.base X.mg c P) (hcode : X.env.code = .ref c) (hr : Room (k + 2) X.A) (L : LamX.LamS X.env.scope scope) (hdef : defaultsOf params X.env = ([], []))
    (hbind : ∀ (q : Str) (cl : List (Str × Addr)) (pm cv ctv : Value), bindArgs (PySem.W.kla_fn "<lambda>" q params body scope cl pm cv ctv) ⟨[], []⟩ = pure [])
    (hbody : ∀ (A : Around) (outer : List Env) (s : Shared) (H : Hp) (E : XK) (f c' : Addr), Room k (A.deeper (LamX.lamEnv X scope s.heap.objs.size f c')) → PE (LamX.lamCx X A outer s H E scope f c') body (t E))
    (hdb : (x == ("__debug__" : Str)) = false := by decide) (hd : (a == ("__debug__" : Str)) = false := by decide) (hcd : (a == ("__classdict__" : Str)) = false := by decide) :
    PE X (.Call (.Name x p) [.Lambda params body scope lpos] [] pos) (tLam3 P (X.env.qual ++ "<lambda>") TT t) := ⟨fun pins s σ H Q I h => by
  refine wpAny_Call_Name_kw (ld_glob I hg hm (PySem.W.callWith_K (h₀ := X.base) I.ok.mod.kin hk ?_ (by rfl) (by rfl)) hdb)
  show wpAny _ _ (spliced ((false, eval (.Lambda params body scope lpos) X.env) :: [])) _ _ s
  refine Calls.spliced_cons (lam_new I TB hcode h.1 hdef L fun f c' pm' ctv H1 s' J made at_ => Calls.spliced_nil ⟨J.kIn, ?_⟩)
  obtain ⟨l1, l2, l3, l4⟩ := at_
  have run := LamX.run_ofS (CX := C8.CX0) (E := C8.E0) (Q := Q) (N := Ng) (ps := [a]) (us := [.ref f]) (vs := [.ref f]) lk hcg Sg hr J.env0 (hb s' [.ref f] J.kIn rfl) (.cons rfl .nil) rfl fun room => by
    obtain ⟨t', w1, w2⟩ := hG f c' s' H1 Q _ (fun W pn xe E p1 p2 tk hW => LamX.pe_act (i := 0) (tb := t E) J L l1 l2 l3 (hbind _ _ _ _ _) tk hW room (fun A outer s H r2 => hbody A outer s H E f c' r2) hNg hva hd hcd) l4 (h.2 H1 made)
    exact ⟨t', w1.nox, w2⟩
  refine wpAny_call (codeAny_mono run fun r s2 z => ?_)
  match r, z with
  | .error _, z => exact (show False from z).elim
  | .ok (.ret u), z => exact J.after z
  | .ok .next, z => exact (show False from z).elim
  | .ok .brk, z => exact (show False from z).elim
  | .ok .cont, z => exact (show False from z).elim⟩
end
end EXX
end
section
set_option Elab.async false
set_option linter.all false
set_option autoImplicit false
set_option maxRecDepth 100000
set_option maxHeartbeats 4000000
namespace DL
open PySem PySem.Spec PyProof.Rows L2
section
variable {X : Cx} {E : XK} {B newId initId : String} {bmB : List Value} {x nm f : Str} {C fI : Addr} {k : Nat} {fd : FuncData} {p pos pos' : Pos} {e : Expr} {te : TE} {de : DE}
/-- raise C(e) -/
def dRaise1 (C : Addr) (nm f : Str) (de : DE) : DS := fun Z _ δ η => de Z δ η fun v η1 => Z (.exc C [f, "code"] [v, .str nm]) η1
/-- the exception as the making leaves it -/
theorem raise_out {K : PySem.W.Frag} {R : Addr → Prop} {η : Eta} {H H' : Hp} {a : Addr} {fs : List (Str × V)} {ns : List Str} {ds : List D} (l : Lk K R η H) (ha : H a = none) (st : EXX.Stored C a fs (upd H a (exo a C none)) H') (hn : fs.map (·.1) = ns) (hr : Reps K R η H (fs.map (·.2)) ds) :
    ∃ d, H' a = some (exo a C (some d)) ∧ H' d = some (exd d fs) ∧ H d = none ∧ Lk K R η (upd (del H' a) d (.xd fs)) ∧ Ext η H η (upd (del H' a) d (.xd fs)) ∧ XRep K R η (upd (del H' a) d (.xd fs)) C (some d) (.exc C ns ds) := by
  obtain ⟨kp, d, hd, da, h1, h2⟩ := st
  rw [upd_ne da] at hd
  have up : ∀ b o, H b = some o → upd (del H' a) d (.xd fs) b = some o := fun b o q => by
    have nb : b ≠ a := ne_of_none q ha
    rw [upd_ne (ne_of_none q hd), del_ne nb]
    exact kp b o nb (by rw [upd_ne nb]; exact q)
  exact ⟨d, h1, h2, hd, l.ex up, Ext.ex up, ns, ds, d, fs, rfl, rfl, upd_same, l.free hd, l.nr hd, hn, hr.up (Ext.ex up)⟩
theorem pds_raise1 (hc : X.calm = true) (T : EXX.OexG X.K B newId initId bmB C) (iC : PySem.W.findIn X.K (.ref C) "__init__" = some (some (.ref fI))) (tI : PySem.W.typeIn X.K (.ref fI) = some (.type "function"))
    (F1 : FnOk X.prog X.w X.K X.mg X.base (L2.CX X.prog X.w) k fI fd ["self", f] (EXX.spX1 C nm f)) (hr : Room (k + 1) X.A) (hb : Binds X.K fd ["self", f] []) (hg : Gl X x) (hm : X.mg x = some (.ref C)) (hn : SOk nm) (he : PD X E e te de)
    (hdb : (x == ("__debug__" : Str)) = false := by decide) (hs : starEach [e] X.env = (false, eval e X.env) :: starEach [] X.env := by rfl) (tk : TkX X E := by first | assumption | exact takes0 | exact takes_of rfl rfl rfl rfl) :
    PDS X E (.Raise (some (.Call (.Name x p) [e] [] pos)) none pos') (fun _ σ H => tMkO C (EXX.spX1 C nm f) [] (tCons te tNil) σ H fun cls d H' => E cls d H') (dRaise1 C nm f de) := by
  refine ⟨ps_raise hc tk (EXX.pmk_exG T iC tI F1 hr hb hg hm (pa_cons he.pe pa_nil hs) (fun kb h => PySem.W.callWith_K (h₀ := X.base) kb T.kC h hs (by rfl)) hdb), fun R σ H δ η Z P D l s h k => ?_⟩
  refine he.so R σ H δ η Z _ _ l s h (k.kn fun v d H1 η1 l1 x1 r1 h1 => ?_)
  refine ⟨by show 1 ≤ 1000; decide, fun a ha => ⟨a, v, rfl, upd_same, fun H' st => ?_⟩⟩
  obtain ⟨dd, e1, e2, e3, l2, x2, xr⟩ := raise_out (ns := [f, "code"]) (ds := [d, .str nm]) l1 ha st rfl (.cons r1 (.cons (.str hn) .nil))
  exact ⟨rfl, dd, _, e1, e2, e3, k.ex C (some dd) _ _ η1 l2 (x1.trans x2) xr h1⟩
end
def dXf (K : PySem.W.Frag) (da : DE) (f : Str) : DE := fun Z δ η Φ => da Z δ η fun x η1 => ∃ C ns ds d, x = .exc C ns ds ∧ XfC K C ∧ PySem.W.findIn K (.ref C) f = some none ∧ lkp ns ds f = some d ∧ Φ d η1
section
variable {X : Cx} {E : XK} {e : Expr} {te : TE} {de : DE} {f : Str} {pos : Pos}
theorem pd_xfld (he : PD X E e te de) (hb : attributeBase e f X.env (eval e X.env) = eval e X.env := by rfl) : PD X E (.Attribute e f pos) (EXX.tXv X.K f te) (dXf X.K de f) := ⟨EXX.pe_xv he.pe hb, fun R σ H δ η Z Φ Q l s h k => by
  refine he.so R σ H δ η Z _ _ l s h (k.to fun v1 d1 H1 η1 l1 e1 r1 h1 => ?_)
  obtain ⟨C, ns, ds, d, rfl, c, n, hl, h1⟩ := h1
  cases r1 with
  | @exc a _ dd fs _ _ x hn hr =>
    subst hn
    obtain ⟨v, hv, rv⟩ := lkp_ok hr hl
    exact ⟨a, C, dd, fs, v, rfl, x.at_, c, n, x.dat, hv, k.ok v d H1 η1 l1 e1 rv h1⟩⟩
end
theorem unitsH {k : Nat} {A : Around} (r : L2H.RoomH k A) : A.units + 64 < cLine := by have := r.un; omega
section
variable {P : Program} {w : World} {K : PySem.W.Frag} {mg : Str → Option Value} {base : Heap}
theorem fn0Q {x qual : Str} {st : Stmt} {f : Addr} {fd : FuncData} {N ps : List Str} {k : Nat} {c : Ct} (F : Fun K x qual st f fd) (S : FnScope N ps (defScope st)) (hlen : ∀ ds η Z Φ, c ds η Z Φ → ds.length = ps.length)
    (hb : ∀ (cdv : Value) (A : Around) (outer : List Env) (s : Shared) (H : Hp) (ds : List D) (η : Eta) (Φ : DK), L2H.RoomH k (A.deeper (envOfC qual (defScope st) s.heap.objs.size f cdv)) → c ds η Z0 Φ →
      ∃ ts t, PDSs (EXX.cxQ P w K mg base N qual (defScope st) f cdv A outer s H) E0 (defBody st) ts t ∧ t Z0 (Pend Φ) (dstart N ds) η) : EXX.FnQ P w K mg base (k + 1) f fd ps (sp0 K fun ds η Z Φ => c ds η Z0 Φ) := by
  obtain ⟨oc, od, kV, doc, pm, an, cdv, ct, osl, rfl, lk, hcd⟩ := F.ex
  refine EXX.fn_ofQ lk hcd S (fun vs H Q E h => ?_) fun A outer s H vs Q hr h => ?_
  · obtain ⟨R, η, ds, Z, Φ, l, r, hc, _⟩ := h
    rw [r.length]; exact hlen ds η Z0 Φ hc
  · obtain ⟨R, η, ds, Z, Φ, l, r, hc, q, qx⟩ := h
    obtain ⟨ts, t, hp, ht⟩ := hb cdv A outer s H ds η Φ hr hc
    exact ⟨ts, hp.ps, hp.so R _ H _ η Z0 _ _ l (sl_start r) ht ⟨fun σ' H' δ' η' l' x s' h' => q _ _ H' η' l' x .non h', fun v d H' η' l' x r' h' => q v d H' η' l' x r' h', fun _ _ _ _ _ _ _ h' => h'.elim, fun _ _ _ _ _ _ _ h' => h'.elim, fun _ _ _ _ _ _ _ _ z => z.elim⟩⟩
end
/-- an exception class that the clause takes, its code read -/
def Caught (K : PySem.W.Frag) (cs : List Value) (C : Addr) : Prop := PySem.W.exmAny K (.ref C) cs = some true ∧ XfC K C ∧ PySem.W.findIn K (.ref C) "code" = some none
def dTry (K : PySem.W.Frag) (cs : List Value) (c : Ct) (de : DE) : DE := fun Z δ η Φ => de (fun x η1 => ∃ C ns ds vc, x = .exc C ns ds ∧ Caught K cs C ∧ lkp ns ds "code" = some vc ∧ c [x] η1 Z0 fun vf η2 => Φ (.tup [vc, vf]) η2) δ η fun v η1 => Φ (.tup [.str "", v]) η1
section
variable {K : PySem.W.Frag} {R : Addr → Prop} {η : Eta} {H H1 : Hp} {P : Addr} {q : Str}
theorem TbOk.tabS (t : TbOk R η H P q) : LamX.TabS H P q := by
  obtain ⟨ps, h1, h2, h3⟩ := t.at_
  exact ⟨ps, h1, h2, fun pos cv hc => let ⟨c, e1, e2, _⟩ := h3 pos cv hc; ⟨c, e1, e2⟩⟩
theorem made_ok (l : Lk K R η H) (t : TabK K P q) (uq : ∀ q', TabK K P q' → q' = q) (m : EXX.Made q P H H1) : Lk K R η H1 ∧ Ext η H η H1 := by
  rcases m with rfl | ⟨ps, c', pos, hP, nc, rfl⟩
  · exact ⟨l, Ext.refl _ _⟩
  have tb := l.tb P q t
  have cP : P ≠ c' := ne_of_none hP nc
  have stay : ∀ a o, a ≠ P → H a = some o → upd (upd H P (.tbl (ps ++ #[rawInt pos.line, rawInt pos.col, .ref c']))) c' (LamX.CodeO c' q) a = some o := fun a o na e => by
    rw [upd_ne (ne_of_none e nc), upd_ne na]; exact e
  have atP : upd (upd H P (.tbl (ps ++ #[rawInt pos.line, rawInt pos.col, .ref c']))) c' (LamX.CodeO c' q) P = some (.tbl (ps ++ #[rawInt pos.line, rawInt pos.col, .ref c'])) := by rw [upd_ne cP, upd_same]
  have x : Ext η H η (upd (upd H P (.tbl (ps ++ #[rawInt pos.line, rawInt pos.col, .ref c']))) c' (LamX.CodeO c' q)) := ⟨fun a o n e => by
    by_cases z : a = P
    · subst z; rw [hP] at e; cases e; exact .inr ⟨ps, _, rfl, atP⟩
    · exact .inl (stay a o z e), fun a h => .inl h⟩
  refine ⟨⟨fun a m e => ?_, fun a ra => ?_, fun P' q' t' => ?_⟩, x⟩
  · have na : a ≠ P := by rintro rfl; rw [tb.n] at e; cases e
    exact (l.m a m e).up x fun o z => stay a o na z
  · have na : a ≠ P := by rintro rfl; exact tb.r ra
    obtain ⟨h1, h2⟩ := l.r a ra
    refine ⟨fun z => ?_, h2⟩
    cases e : H a with
    | none => exact h1 e
    | some o => rw [stay a o na e] at z; cases z
  · have tb' := l.tb P' q' t'
    obtain ⟨ps', g1, g2, g3⟩ := tb'.at_
    have keep : ∀ c, H c = some (LamX.CodeO c q') → c ≠ P := fun c e z => by rw [z, hP] at e; cases e
    by_cases z : P' = P
    · subst z
      obtain rfl := uq q' t'
      rw [hP] at g1
      cases g1
      refine ⟨tb'.n, tb'.r, _, atP, ?_, fun pos' cv hc => ?_⟩
      · rw [show (ps ++ #[rawInt pos.line, rawInt pos.col, .ref c']).toList = ps.toList ++ [rawInt pos.line, rawInt pos.col, .ref c'] from by simp]
        exact PySem.TriplesOk_snoc _ _ _ _ g2
      · rw [show (ps ++ #[rawInt pos.line, rawInt pos.col, .ref c']).toList = ps.toList ++ [rawInt pos.line, rawInt pos.col, .ref c'] from by simp] at hc
        rcases LamX.among_app _ g2 hc with w | w
        · obtain ⟨c, e1, e2, e3, e4⟩ := g3 pos' cv w
          exact ⟨c, e1, stay c _ (keep c e2) e2, e3, e4⟩
        · exact ⟨c', w, upd_same, l.free nc, l.nr nc⟩
    · exact ⟨tb'.n, tb'.r, ps', stay P' _ z g1, g2, fun pos' cv hc => let ⟨c, e1, e2, e3, e4⟩ := g3 pos' cv hc; ⟨c, e1, stay c _ (keep c e2) e2, e3, e4⟩⟩
end
section
variable {X : Cx} {E : XK} {x a : Str} {g c P : Addr} {k : Nat} {fd : FuncData} {Ng : List Str} {sg : Stmt} {params : Arguments} {body : Expr} {scope : Scope} {t : XK → TE} {p lpos pos : Pos} {cs : List Value} {ct : Ct} {de : DE} {cdg : Value}
theorem pd_try (F : Fun X.K x x sg g fd) (hg : Gl X x) (hm : X.mg x = some (.ref g)) (hb : Binds X.K fd [a] []) (Sg : FnScope Ng [a] (defScope sg)) (hNg : Ng[0]? = some a) (hva : Vis (defScope sg) a)
    (hG : ∀ cdv, LamX.GivesTo X Ng x (defScope sg) g cdv (defBody sg) a (X.env.qual ++ "<lambda>") (EXX.TTry X.K cs (sp0 X.K fun ds η Z Φ => ct ds η Z0 Φ))) (TB : LamX.TabB X.base X.mg c P) (hcode : X.env.code = .ref c) (hT : TabK X.K P (X.env.qual ++ "<lambda>")) (uq : ∀ q', TabK X.K P q' → q' = X.env.qual ++ "<lambda>")
    (hr : Room (k + 2) X.A) (L : LamX.LamS X.env.scope scope) (hbind : ∀ (q : Str) (cl : List (Str × Addr)) (pm cv ctv : Value), bindArgs (PySem.W.kla_fn "<lambda>" q params body scope cl pm cv ctv) ⟨[], []⟩ = pure [])
    (hbody : ∀ (A : Around) (outer : List Env) (s : Shared) (H : Hp) (E : XK) (f c' : Addr), Room k (A.deeper (LamX.lamEnv X scope s.heap.objs.size f c')) → PD (LamX.lamCx X A outer s H E scope f c') E body (t E) de)
    (hdef : defaultsOf params X.env = ([], []) := by rfl) (hdb : (x == ("__debug__" : Str)) = false := by decide) (hd : (a == ("__debug__" : Str)) = false := by decide) (hcd : (a == ("__classdict__" : Str)) = false := by decide) :
    PD X E (.Call (.Name x p) [.Lambda params body scope lpos] [] pos) (EXX.tLam3 P (X.env.qual ++ "<lambda>") (EXX.TTry X.K cs (sp0 X.K fun ds η Z Φ => ct ds η Z0 Φ)) t) (dTry X.K cs ct de) := by
  obtain ⟨oc, od, kV, doc, pm, an, cdv, ctv, osl, rfl, lk, hcg⟩ := F.ex
  refine ⟨EXX.pe_lam3 hg hm F.kp lk hcg hb Sg hNg hva (hG cdv) TB hcode hr L hdef hbind (fun A outer s H E f c' r => (hbody A outer s H E f c' r).pe) hdb hd hcd, fun R σ H δ η Z Φ Q l s h kn => ?_⟩
  refine ⟨(l.tb P _ hT).tabS, fun H1 md => ?_⟩
  obtain ⟨l1, x1⟩ := made_ok l hT uq md
  have pair : ∀ {η' : Eta} {H' : Hp} {p : Addr} {u v : V} {d e : D}, Lk X.K R η' H' → Ext η H η' H' → H' p = none → Rep X.K R η' H' u d → Rep X.K R η' H' v e → Φ (.tup [d, e]) η' → Q (.ref p) (upd H' p (.tup [u, v])) := fun {η' H' p u v d e} l' x hp ru rv h' => by
    have z := Ext.new (η := η') (o := .tup [u, v]) hp
    exact kn.ok _ _ _ _ (l'.new hp) (x.trans z) (.tup (.inl upd_same) (l'.free hp) (l'.nr hp) (.cons (ru.up z) (.cons (rv.up z) .nil))) h'
  unfold EXX.TTry
  refine (hbody (X.A.deeper X.env) [] {} H1 _ g g ((show Room (k + 1) _ from hr.deeper X.env).deeper _)).so R σ H1 δ η _ _ (fun v H' => ∀ p, H' p = none → Q (.ref p) (upd H' p (.tup [.str "", v]))) l1 (s.up x1) h ⟨fun v d H' η' l' x r h' p hp => pair l' (x1.trans x) hp (.str ⟨by decide +kernel, by decide +kernel⟩) r h', fun C od xx H' η' l' x xr hz => ?_⟩
  obtain ⟨C', ns, ds, vc, rfl, ⟨c1, c2, c3⟩, hl, hc⟩ := hz
  obtain ⟨ns', ds', d, fs, e, rfl, dat, dn, dr, hn, hr'⟩ := xr
  cases e
  subst hn
  obtain ⟨v, hv, rv⟩ := lkp_ok hr' hl
  refine ⟨C, d, rfl, rfl, c1, c2, c3, fs, v, dat, hv, fun a ha => ?_⟩
  have xa := Ext.new (η := η') (o := Exv C d a) ha
  refine ⟨R, η', _, Z0, _, l'.new ha, .cons (.exc ⟨upd_same, l'.free ha, l'.nr ha, new_ex ha _ _ dat, dn, dr⟩ rfl (hr'.up xa)) .nil, hc, fun vf df H2 η2 l2 x2 r2 h2 p hp => ?_, fun _ _ _ _ _ _ _ _ z => z.elim⟩
  exact pair l2 ((x1.trans x).trans (xa.trans x2)) hp (rv.up (xa.trans x2)) r2 h2
end
end DL
end
section
set_option Elab.async false
set_option linter.all false
set_option autoImplicit false
set_option maxRecDepth 100000
set_option maxHeartbeats 4000000
namespace DL
open PySem PySem.Spec PyProof.Rows L2
section
variable {C : Addr} {nm f : Str} {de : DE} {fe : FE} {K : PySem.W.Frag}
def kRaise1 (C : Addr) (nm f : Str) : Rs FV → O := fun r => r.thn fun v fs1 => match v with
  | .d x => .ex (.exc C [f, "code"] [x, .str nm]) fs1
  | _ => .bad
def fRaise1 (C : Addr) (nm f : Str) (fe : FE) : FSt := fun fs => kRaise1 C nm f (fe fs)
theorem imps_raise1 (he : ImpG VR de fe) : ImpS (dRaise1 C nm f de) (fRaise1 C nm f fe) := fun B fs δ η Z P s h => he B fs δ η Z _ s (Post.thn h fun v fs1 d1 η1 s1 r1 h1 => by
  cases v with
  | d x => obtain ⟨rfl, n⟩ := r1; exact h1 δ η1 s1 (by simp [nr, nrs, n])
  | s i => exact h1.elim
  | f o => exact h1.elim)
def fRaise0 (C : Addr) (nm : Str) : FSt := fun fs => .ex (.exc C ["code"] [.str nm]) fs
def xfG (cs : List Addr) (f : Str) : Option D → Option D
  | some (.exc C ns ds) => if cs.contains C then lkp ns ds f else none
  | _ => none
def fXf (cs : List Addr) (f : Str) (fe : FE) : FE := fun fs => (fe fs).bind fun v fs1 => match xfG cs f (rsv fs1 v) with
  | some d => .ok (.d d) fs1
  | none => .bad
theorem xfG_ok {cs : List Addr} {x : Option D} {d : D} (h : xfG cs f x = some d) : ∃ C ns ds, x = some (.exc C ns ds) ∧ C ∈ cs ∧ lkp ns ds f = some d := by
  unfold xfG at h
  split at h
  · rename_i C ns ds
    split at h
    · rename_i q; exact ⟨C, ns, ds, rfl, by simpa using q, h⟩
    · cases h
  · cases h
theorem lkp_nr {f : Str} {d : D} : ∀ {ns : List Str} {ds : List D}, nrs ds = true → lkp ns ds f = some d → nr d = true := by
  intro ns ds n h
  have key : ∀ {ns : List Str} {ds : List D}, lkp ns ds f = some d → d ∈ ds := by
    intro ns
    induction ns with
    | nil => intro ds h; cases ds <;> simp [lkp] at h
    | cons a ns ih =>
      intro ds h
      cases ds with
      | nil => simp [lkp] at h
      | cons e ds =>
        simp only [lkp] at h
        split at h
        · cases h; exact List.mem_cons_self
        · exact List.mem_cons_of_mem _ (ih h)
  exact nrs_mem n (key h)
theorem rd_exc {η : Eta} {d : D} {C : Addr} {ns : List Str} {ds : List D} (h : rd η d = .exc C ns ds) : d = .exc C ns ds := by
  cases d with
  | ref p =>
    have h : (match η p with | some o => mD o | none => D.ref p) = .exc C ns ds := h
    split at h
    · rename_i o e; cases o <;> cases h
    · cases h
  | _ => exact h
theorem imp_xf {cs : List Addr} (hc : ∀ C ∈ cs, XfC K C ∧ PySem.W.findIn K (.ref C) f = some none) (he : ImpG VR de fe) : ImpG VR (dXf K de f) (fXf cs f fe) := fun B fs δ η Z Φ s h => he B fs δ η Z _ s (Post.bind h fun v fs1 d1 η1 s1 r1 h1 => by
  split at h1
  · rename_i d e
    obtain ⟨C, ns, ds, e1, hC, hl⟩ := xfG_ok e
    obtain ⟨q1, q2⟩ := r1.rd s1 e1
    have n := lkp_nr (show nrs ds = true from q2) hl
    exact ⟨C, ns, ds, d, rd_exc q1, (hc C hC).1, (hc C hC).2, hl, h1 d η1 s1 ⟨rfl, n⟩⟩
  · exact h1.elim)
def kTry3 (vc : D) (s : FS) : Rm → Rs FV
  | .ok (.d vf) [.d _] => .ok (.d (.tup [vc, vf])) s
  | _ => .bad
def kTry2 (mff : MF) (x : D) (s : FS) : Option D → Rs FV
  | some vc => kTry3 vc s (mff [.d x])
  | none => .bad
def kTry (cs : List Addr) (mff : MF) : Rs FV → Rs FV
  | .ok (.d v) s => .ok (.d (.tup [.str "", v])) s
  | .ex x s => kTry2 mff x s (xfG cs "code" (some x))
  | _ => .bad
def fTry (cs : List Addr) (mff : MF) (fe : FE) : FE := fun fs => kTry cs mff (fe fs)
theorem imp_try {ks : List Addr} {cs : List Value} {mff : MF} (hc : ∀ C ∈ ks, Caught K cs C) (he : ImpG VR de fe) : ImpG VR (dTry K cs (CtF mff) de) (fTry ks mff fe) := fun B fs δ η Z Φ s h => he B fs δ η _ _ s (by
  have h : Post B δ VR (kTry ks mff (fe fs)) Z Φ := h
  cases e : fe fs with
  | bad => rw [e] at h; exact h.elim
  | ok v s1 =>
    rw [e] at h
    cases v with
    | d x =>
      intro d η1 st r
      obtain ⟨rfl, n⟩ := r
      exact h _ η1 st ⟨rfl, by simp [nr, nrs, n]⟩
    | s i => exact h.elim
    | f o => exact h.elim
  | ex x s1 =>
    rw [e] at h
    have h : Post B δ VR (kTry2 mff x s1 (xfG ks "code" (some x))) Z Φ := h
    intro η1 st n
    cases e1 : xfG ks "code" (some x) with
    | none => rw [e1] at h; exact h.elim
    | some vc =>
      rw [e1] at h
      obtain ⟨C, ns, ds, ex, hC, hl⟩ := xfG_ok e1
      cases ex
      have nc := lkp_nr (show nrs ds = true from n) hl
      refine ⟨C, ns, ds, vc, rfl, hc C hC, hl, [.d (.exc C ns ds)], ⟨⟨rfl, n⟩, True.intro⟩, List.nodup_nil, ?_⟩
      have h : Post B δ VR (kTry3 vc s1 (mff [.d (.exc C ns ds)])) Z Φ := h
      cases e2 : mff [.d (.exc C ns ds)] with
      | bad => rw [e2] at h; exact h.elim
      | ex y as' => rw [e2] at h; exact h.elim
      | ok w as' =>
        rw [e2] at h
        intro d η2 ha hf hr
        cases w with
        | s i => exact hr.elim
        | f o => exact h.elim
        | d vf =>
          cases as' with
          | nil => exact h.elim
          | cons a as' =>
            cases a with
            | m o => exact h.elim
            | d y =>
              cases as' with
              | cons _ _ => exact h.elim
              | nil =>
                obtain ⟨rfl, nv⟩ := hr
                have st2 : St B s1 δ η2 := st.after (vs := [.d (.exc C ns ds)]) (ds := [.exc C ns ds]) (as' := [.d y]) ⟨⟨rfl, n⟩, True.intro⟩ ha hf rfl
                exact h _ η2 st2 ⟨rfl, by simp [nr, nrs, nc, nv]⟩)
end
end DL
end
section
set_option Elab.async false
set_option linter.all false
set_option autoImplicit false
set_option maxRecDepth 100000
set_option maxHeartbeats 4000000
namespace DL
open PySem PySem.Spec PyProof.Rows L2
section
variable {X : Cx} {E : XK} {o e : Expr} {to te : TE} {ta : TA} {do_ : DE} {da : DA} {pos apos : Pos} {es : List Expr}
def sokB (y : Str) : Bool := PyData.strOk y && decide (y.length ≤ sizeLine)
theorem sokB_ok {y : Str} (h : sokB y = true) : SOk y := by
  unfold sokB at h
  rw [Bool.and_eq_true, decide_eq_true_eq] at h
  exact ⟨h.1, h.2⟩
def oSplit : DMt := fun x ds η Φ => ∃ a b, x = .str a ∧ ds = [.str b] ∧ (b.length == 0) = false ∧ a.length + 2 ≤ sizeLine ∧ (∀ y ∈ Txt.split a b, SOk y) ∧ Φ (.lst ((Txt.split a b).map D.str)) η
theorem reps_strs {K : PySem.W.Frag} {R : Addr → Prop} {η : Eta} {H : Hp} : ∀ {ys : List Str}, (∀ y ∈ ys, SOk y) → Reps K R η H (ys.map V.str) (ys.map D.str)
  | [], _ => .nil
  | y :: ys, h => .cons (.str (h y List.mem_cons_self)) (reps_strs fun z hz => h z (List.mem_cons_of_mem _ hz))
theorem mtd_split : MtD X "str.split" (fun x xs H Q => ∃ a b, x = .str a ∧ xs = [.str b] ∧ (b.length == 0) = false ∧ a.length + 2 ≤ sizeLine ∧ rNewStrs (Txt.split a b) H Q) oSplit := ⟨mt_split, fun R η H x xs dx ds Φ Q l rx rs h k => by
  obtain ⟨a, b, rfl, rfl, h1, h2, h3, h⟩ := h
  cases rx
  cases rs with
  | cons r1 r2 =>
    cases r1
    cases r2
    refine ⟨a, b, rfl, rfl, h1, h2, fun p hp => ?_⟩
    exact k _ _ _ η (l.new hp) (Ext.new hp) (.lst (.inl upd_same) (l.free hp) (l.nr hp) (reps_strs h3)) h⟩
theorem kd_split (ho : PD X E o to do_) (ha : PDA X E [e] ta da) (hbase : attributeBase o "split" X.env (eval o X.env) = eval o X.env := by rfl)
    (hfew : ((backTo pos (starEach [e] X.env)).all (fun x => !x.1) && (backToKw pos (keywordEach [] X.env)).all (fun x => x.1.isSome)
      && decide (([e] : List Expr).length + ([] : List Keyword).length + (if ([] : List Keyword).isEmpty then 0 else 1) < 30)) = true := by rfl)
    (hline : (apos.endLine == pos.line) = true := by rfl) (hs : starEach [e] X.env = (false, eval e X.env) :: starEach [] X.env := by rfl) (hplain : (backTo pos (starEach [] X.env)).any (·.1) = false := by rfl) :
    PD X E (.Call (.Attribute o "split" apos) [e] [] pos) (tBM X.K "str" (fun x xs H Q => ∃ a b, x = .str a ∧ xs = [.str b] ∧ (b.length == 0) = false ∧ a.length + 2 ≤ sizeLine ∧ rNewStrs (Txt.split a b) H Q) to ta) (dMA oSplit do_ da) :=
  pd_mA PySem.F.slot_str_split PySem.F.type_str_split mtd_split ho ha hbase hfew hline hs hplain
end
def gSplit (a : Str) : List D → Option D
  | [.str b] => if (b.length == 0) = false ∧ a.length + 2 ≤ sizeLine ∧ (Txt.split a b).all sokB = true then some (.lst ((Txt.split a b).map D.str)) else none
  | _ => none
theorem nrs_strs : ∀ ys : List Str, nrs (ys.map D.str) = true
  | [] => rfl
  | _ :: ys => nrs_cons rfl (nrs_strs ys)
theorem impma_split : ImpMA oSplit gSplit := fun η z ds Φ r n h => by
  unfold gSplit at h
  split at h
  · rename_i b e
    split at h
    · rename_i c
      cases h
      obtain ⟨x, rfl, e1⟩ := map_one e
      exact ⟨nrs_strs _, fun k => ⟨z, b, rfl, by rw [rd_str e1], c.1, c.2.1, fun y hy => sokB_ok (List.all_eq_true.mp c.2.2 y hy), k⟩⟩
    · cases h
  · cases h
theorem vv_split {a b : Str} : gSplit a [.str b] = if (b.length == 0) = false ∧ a.length + 2 ≤ sizeLine ∧ (Txt.split a b).all sokB = true then some (.lst ((Txt.split a b).map D.str)) else none := rfl
end DL
end
section
set_option Elab.async false
set_option linter.all false
set_option autoImplicit false
set_option maxRecDepth 100000
set_option maxHeartbeats 4000000
namespace DL
open PySem PySem.Spec PyProof.Rows L2
/-- a def of the text, its code object at c -/
structure FunC (K : PySem.W.Frag) (x qual : Str) (st : Stmt) (f : Addr) (fd : FuncData) (c : Addr) : Prop where
  ex : ∃ (oc : Value) (od : Option Addr) (kV doc pm : Value) (an : Option Addr) (ct : Value) (osl : Array (Option Value)),
    fd = PySem.W.fnOf x qual (defArgs st) (defBody st) (defScope st) .none kV doc pm an (.ref c) ct ∧ K.lookup f = some ⟨oc, od, .func fd, osl⟩ ∧ PySem.W.codeIn K (.ref c) qual = true
  kp : PySem.W.keepIn K (.ref f) = true
section
variable {P : Program} {w : World} {K : PySem.W.Frag} {mg : Str → Option Value} {base : Heap} {x qual : Str} {st : Stmt} {f cc : Addr} {fd : FuncData} {N ps : List Str} {k : Nat} {c : Ct}
theorem FunC.to (F : FunC K x qual st f fd cc) : Fun K x qual st f fd := by
  obtain ⟨oc, od, kV, doc, pm, an, ct, osl, e, l, h⟩ := F.ex
  exact ⟨⟨oc, od, kV, doc, pm, an, .ref cc, ct, osl, e, l, h⟩, F.kp⟩
theorem funC_mk {oc : Value} {od an : Option Addr} {osl : Array (Option Value)} {kV doc pm ct : Value} (l : K.lookup f = some ⟨oc, od, .func (PySem.W.fnOf x qual (defArgs st) (defBody st) (defScope st) .none kV doc pm an (.ref cc) ct), osl⟩)
    (h : PySem.W.codeIn K (.ref cc) qual = true) (k : PySem.W.keepIn K (.ref f) = true) : FunC K x qual st f (PySem.W.fnOf x qual (defArgs st) (defBody st) (defScope st) .none kV doc pm an (.ref cc) ct) cc := ⟨⟨oc, od, kV, doc, pm, an, ct, osl, rfl, l, h⟩, k⟩
theorem fn0C (F : FunC K x qual st f fd cc) (S : FnScope N ps (defScope st)) (hlen : ∀ ds η Z Φ, c ds η Z Φ → ds.length = ps.length)
    (hb : ∀ (A : Around) (outer : List Env) (s : Shared) (H : Hp) (E : XK) (ds : List D) (η : Eta) (Z : Xk) (Φ : DK), Room k (A.deeper (envOfC qual (defScope st) s.heap.objs.size f (.ref cc))) → c ds η Z Φ →
      ∃ ts t, PDSs (cxOf (L2.CX P w) P w K mg base N qual (defScope st) f (.ref cc) A outer s H E) E (defBody st) ts t ∧ t Z (Pend Φ) (dstart N ds) η) : FnOk P w K mg base (L2.CX P w) (k + 1) f fd ps (sp0 K c) := by
  obtain ⟨oc, od, kV, doc, pm, an, ct, osl, rfl, lk, hcd⟩ := F.ex
  refine fn_of lk hcd S (fun vs H Q E h => ?_) fun A outer s H vs Q E hr h => ?_
  · obtain ⟨R, η, ds, Z, Φ, l, r, hc, _⟩ := h
    rw [r.length]; exact hlen ds η Z Φ hc
  · obtain ⟨R, η, ds, Z, Φ, l, r, hc, q, qx⟩ := h
    obtain ⟨ts, t, hp, ht⟩ := hb A outer s H E ds η Z Φ hr hc
    refine ⟨ts, hp.ps, hp.so R _ H _ η Z _ _ l (sl_start r) ht ⟨fun σ' H' δ' η' l' x s' h' => q _ _ H' η' l' x .non h', fun v d H' η' l' x r' h' => q v d H' η' l' x r' h', fun _ _ _ _ _ _ _ h' => h'.elim, fun _ _ _ _ _ _ _ h' => h'.elim, qx⟩⟩
end
def lamNames : List Str := ["law", "_law_deed", "_law_apply", "_law_kept_so"]
def tabsB (K : PySem.W.Frag) (ts : List (Str × Addr)) : Bool := lamNames.all fun nm => match PySem.W.tabIn K nm with
  | some (_, P) => (K.lookup P).isSome || ts.any fun q => q.1 == nm && q.2 == P
  | none => true
section
variable {K : PySem.W.Frag} {P c : Addr} {q nm : Str} {ts : List (Str × Addr)}
theorem tabK_in (t : TabK K P q) : ∃ nm c, nm ∈ lamNames ∧ PySem.W.tabIn K nm = some (c, P) ∧ K.lookup P = none ∧ q = nm ++ ".<locals>." ++ "<lambda>" := by
  obtain ⟨⟨n, -⟩, nm, f, c, oc, od, fd, sl, o, vs, h1, h2, h3, h4, h5, h6, h7, h8⟩ := t
  refine ⟨nm, c, h1, ?_, n, h8⟩
  unfold PySem.W.tabIn
  obtain ⟨o1, o2, o3, o4⟩ := o
  dsimp only at h6
  subst h6
  simp only [h2, h3, h4, h5, h7]
theorem tabs_of (h : tabsB K ts = true) (t : TabK K P q) : ∃ nm, (nm, P) ∈ ts ∧ q = nm ++ ".<locals>." ++ "<lambda>" := by
  obtain ⟨nm, c, h1, h2, h3, h4⟩ := tabK_in t
  have z := List.all_eq_true.mp h nm h1
  rw [h2] at z
  have z : ((K.lookup P).isSome || ts.any fun q => q.1 == nm && q.2 == P) = true := z
  rw [h3] at z
  have z : (ts.any fun q => q.1 == nm && q.2 == P) = true := z
  obtain ⟨⟨a, b⟩, hm, e⟩ := List.any_eq_true.mp z
  rw [Bool.and_eq_true, beq_iff_eq, beq_iff_eq] at e
  obtain ⟨rfl, rfl⟩ := e
  exact ⟨_, hm, h4⟩
theorem uq_of (h : tabsB K ts = true) (nd : (ts.map (·.2)).Nodup) (m : (nm, P) ∈ ts) : ∀ q', TabK K P q' → q' = nm ++ ".<locals>." ++ "<lambda>" := fun q' t => by
  obtain ⟨nm', hm, e⟩ := tabs_of h t
  have : nm' = nm := by
    clear h t e
    induction ts with
    | nil => cases m
    | cons a ts ih =>
      rw [List.map_cons, List.nodup_cons] at nd
      rcases List.mem_cons.mp m with e1 | e1 <;> rcases List.mem_cons.mp hm with e2 | e2
      · rw [← e1] at e2; exact congrArg Prod.fst e2
      · subst e1; exact absurd (List.mem_map.mpr ⟨_, e2, rfl⟩) nd.1
      · subst e2; exact absurd (List.mem_map.mpr ⟨_, e1, rfl⟩) nd.1
      · exact ih nd.2 e1 e2
  rw [e, this]
end
end DL
end
section
set_option Elab.async false
set_option linter.all false
set_option autoImplicit false
set_option maxRecDepth 100000
set_option maxHeartbeats 4000000
namespace DL
open PySem PySem.Spec PyProof.Rows L2
section
variable {s fs : FS} {fe fa fb fc fo : FE} {ft fu : FT} {fr fk : FA} {fl fh : FO} {f g : FSt} {o o' : FO2} {fon : FOn} {i j n m k : Nat} {x y z d : D} {v w : FV} {vs ws : List FV} {xs ys : List D} {mf : MF} {as : List Ar} {b c : Bool} {pr : Bool} {mo : M} {C : Addr} {ns : List Str} {fn : Str}
def kVar (i : Nat) (s : FS) : Option (Option Sv) → Rs FV
  | some (some (.d x)) => .ok (.d x) s
  | some (some (.m _ _)) => .ok (.s i) s
  | some (some (.l _)) => .ok (.s i) s
  | _ => .bad
theorem c_var : fVar i s = kVar i s s[i]? := by unfold fVar kVar; rfl
theorem c_var_d : kVar i s (some (some (.d x))) = .ok (.d x) s := rfl
theorem c_var_m : kVar i s (some (some (.m pr mo))) = .ok (.s i) s := rfl
theorem c_var_l : kVar i s (some (some (.l mo))) = .ok (.s i) s := rfl
theorem c_c : fC d s = .ok (.d d) s := rfl
def kOp1 (o : FO2) (fb : FE) : Rs FV → Rs FV := fun r => r.bind fun x s1 => (fb s1).bind fun y s2 => o s2 x y
def kOp2 (o : FO2) (x : FV) : Rs FV → Rs FV := fun r => r.bind fun y s2 => o s2 x y
theorem c_op : fOp o fa fb s = kOp1 o fb (fa s) := rfl
theorem c_op1 : kOp1 o fb (.ok v s) = kOp2 o v (fb s) := rfl
theorem c_op2 : kOp2 o v (.ok w s) = o s v w := rfl
def kRet (s : FS) : Option D → Rs FV
  | some z => .ok (.d z) s
  | none => .bad
theorem c_ret : kRet s (some z) = .ok (.d z) s := rfl
theorem c_ret_n : kRet s none = .bad := rfl
def kO2 (g : D → D → Option D) (s : FS) : Option D → Option D → Rs FV
  | some a, some b => kRet s (g a b)
  | _, _ => .bad
theorem c_o2 {g : D → D → Option D} : op2 g s v w = kO2 g s (rsv s v) (rsv s w) := by
  unfold op2 kO2 kRet
  cases rsv s v <;> cases rsv s w <;> rfl
theorem c_o2s {g : D → D → Option D} : kO2 g s (some x) (some y) = kRet s (g x y) := rfl
theorem c_rsv_d : rsv s (.d x) = some x := rfl
theorem c_rsv_f : rsv s (.f mo) = some (mD mo) := rfl
theorem c_rsv_s : rsv s (.s i) = (slotM s i).map mD := rfl
def kSlot : Option (Option Sv) → Option M
  | some (some (.m _ o)) => some o
  | some (some (.l o)) => some o
  | _ => none
theorem c_slot : slotM s i = kSlot s[i]? := by unfold slotM kSlot; rfl
theorem c_slot_m : kSlot (some (some (.m pr mo))) = some mo := rfl
theorem c_slot_l : kSlot (some (some (.l mo))) = some mo := rfl
theorem c_slot_d : kSlot (some (some (.d x))) = none := rfl
theorem c_mD_l : mD (.lst xs) = .lst xs := rfl
theorem c_mD_i : mD (.ins C ns xs) = .obj C ns xs := rfl
theorem c_mD_d {ks : List Key} : mD (.dct ks xs) = .dct ks xs := rfl
def kTest : Rs FV → Rs Bool := fun r => r.bind fun v fs1 => match v with
  | .d (.bl b) => .ok b fs1
  | _ => .bad
theorem c_test : fTest fe s = kTest (fe s) := rfl
theorem c_test_b : kTest (.ok (.d (.bl b)) s) = .ok b s := rfl
def kAnd (fu : FT) : Rs Bool → Rs Bool := fun r => r.bind fun c fs1 => if c = true then fu fs1 else .ok false fs1
def kOr (fu : FT) : Rs Bool → Rs Bool := fun r => r.bind fun c fs1 => if c = true then .ok true fs1 else fu fs1
def kNot : Rs Bool → Rs Bool := fun r => r.bind fun c fs1 => .ok (!c) fs1
theorem c_and : fAnd ft fu s = kAnd fu (ft s) := rfl
theorem c_and_b : kAnd fu (.ok b s) = if b = true then fu s else .ok false s := rfl
theorem c_or : fOr ft fu s = kOr fu (ft s) := rfl
theorem c_or_b : kOr fu (.ok b s) = if b = true then .ok true s else fu s := rfl
theorem c_not : fNot ft s = kNot (ft s) := rfl
theorem c_not_b : kNot (.ok b s) = .ok (!b) s := rfl
theorem c_yes : fYes s = .ok true s := rfl
def kAndV (fb : FE) : Rs FV → Rs FV := fun r => r.bind fun v fs1 => match blOf v with
  | some true => fb fs1
  | some false => .ok (.d (.bl false)) fs1
  | none => .bad
def kOrV (fb : FE) : Rs FV → Rs FV := fun r => r.bind fun v fs1 => match blOf v with
  | some false => fb fs1
  | some true => .ok (.d (.bl true)) fs1
  | none => .bad
def kNotV : Rs FV → Rs FV := fun r => r.bind fun v fs1 => match blOf v with
  | some b => .ok (.d (.bl (!b))) fs1
  | none => .bad
theorem c_andV : fAndV fa fb s = kAndV fb (fa s) := rfl
theorem c_andV_b : kAndV fb (.ok (.d (.bl b)) s) = if b = true then fb s else .ok (.d (.bl false)) s := by cases b <;> rfl
theorem c_orV : fOrV fa fb s = kOrV fb (fa s) := rfl
theorem c_orV_b : kOrV fb (.ok (.d (.bl b)) s) = if b = true then .ok (.d (.bl true)) s else fb s := by cases b <;> rfl
theorem c_notV : fNotV fa s = kNotV (fa s) := rfl
theorem c_notV_b : kNotV (.ok (.d (.bl b)) s) = .ok (.d (.bl (!b))) s := rfl
def kIfe (fa fb : FE) : Rs Bool → Rs FV := fun r => r.bind fun c fs1 => if c = true then fa fs1 else fb fs1
theorem c_ife : fIf ft fa fb s = kIfe fa fb (ft s) := rfl
theorem c_ife_b : kIfe fa fb (.ok b s) = if b = true then fa s else fb s := rfl
def kCh4 (o' : FO2) (yy : D) : Rs FV → Rs FV := fun r => r.bind fun w fs4 => o' fs4 (.d yy) w
def kCh3 (o' : FO2) (fc : FE) (yy : D) : Rs FV → Rs FV := fun r => r.bind fun z fs3 => match blOf z with
    | some true => (fc fs3).bind fun w fs4 => o' fs4 (.d yy) w
    | some false => .ok (.d (.bl false)) fs3
    | none => .bad
def kCh2 (o o' : FO2) (fc : FE) (x : FV) : Rs FV → Rs FV := fun r => r.bind fun y fs2 => match y with
  | .d yy => (o fs2 x (.d yy)).bind fun z fs3 => match blOf z with
    | some true => (fc fs3).bind fun w fs4 => o' fs4 (.d yy) w
    | some false => .ok (.d (.bl false)) fs3
    | none => .bad
  | _ => .bad
def kCh1 (o o' : FO2) (fb fc : FE) : Rs FV → Rs FV := fun r => r.bind fun x fs1 => (fb fs1).bind fun y fs2 => match y with
  | .d yy => (o fs2 x (.d yy)).bind fun z fs3 => match blOf z with
    | some true => (fc fs3).bind fun w fs4 => o' fs4 (.d yy) w
    | some false => .ok (.d (.bl false)) fs3
    | none => .bad
  | _ => .bad
theorem c_ch : fChain o o' fa fb fc s = kCh1 o o' fb fc (fa s) := rfl
theorem c_ch1 : kCh1 o o' fb fc (.ok v s) = kCh2 o o' fc v (fb s) := rfl
theorem c_ch2 : kCh2 o o' fc v (.ok (.d y) s) = kCh3 o' fc y (o s v (.d y)) := rfl
theorem c_ch3 : kCh3 o' fc y (.ok (.d (.bl b)) s) = if b = true then kCh4 o' y (fc s) else .ok (.d (.bl false)) s := by cases b <;> rfl
theorem c_ch4 : kCh4 o' y (.ok w s) = o' s (.d y) w := rfl
def kCons1 (fr : FA) : Rs FV → Rs (List FV) := fun r => r.bind fun v fs1 => (fr fs1).bind fun vs fs2 => .ok (v :: vs) fs2
def kCons2 (v : FV) : Rs (List FV) → Rs (List FV) := fun r => r.bind fun vs fs2 => .ok (v :: vs) fs2
theorem c_nil : fNil s = .ok [] s := rfl
theorem c_cons : fCons fe fr s = kCons1 fr (fe s) := rfl
theorem c_cons1 : kCons1 fr (.ok v s) = kCons2 v (fr s) := rfl
theorem c_cons2 : kCons2 v (.ok vs s) = .ok (v :: vs) s := rfl
def kTup (s : FS) : Option (List D) → Rs FV
  | some xs => if xs.length ≤ most then .ok (.d (.tup xs)) s else .bad
  | none => .bad
def kLst (s : FS) : Option (List D) → Rs FV
  | some xs => if xs.length ≤ most then .ok (.d (.lst xs)) s else .bad
  | none => .bad
def kLstM (s : FS) : Option (List D) → Rs FV
  | some xs => if xs.length ≤ most then .ok (.f (.lst xs)) s else .bad
  | none => .bad
def kTup1 : Rs (List FV) → Rs FV := fun r => r.bind fun vs s => kTup s (allD vs)
def kLst1 : Rs (List FV) → Rs FV := fun r => r.bind fun vs s => kLst s (allD vs)
def kLstM1 : Rs (List FV) → Rs FV := fun r => r.bind fun vs s => kLstM s (allD vs)
theorem c_tup : fTup fr s = kTup1 (fr s) := by
  unfold fTup kTup1; cases fr s with | ok vs s1 => (show (match allD vs with | some xs => _ | none => _) = kTup s1 (allD vs); unfold kTup; cases allD vs <;> rfl) | ex _ _ => rfl | bad => rfl
theorem c_lst : fLst fr s = kLst1 (fr s) := by
  unfold fLst kLst1; cases fr s with | ok vs s1 => (show (match allD vs with | some xs => _ | none => _) = kLst s1 (allD vs); unfold kLst; cases allD vs <;> rfl) | ex _ _ => rfl | bad => rfl
theorem c_lstM : fLstM fr s = kLstM1 (fr s) := by
  unfold fLstM kLstM1; cases fr s with | ok vs s1 => (show (match allD vs with | some xs => _ | none => _) = kLstM s1 (allD vs); unfold kLstM; cases allD vs <;> rfl) | ex _ _ => rfl | bad => rfl
theorem c_tup1 : kTup1 (.ok vs s) = kTup s (allD vs) := rfl
theorem c_lst1 : kLst1 (.ok vs s) = kLst s (allD vs) := rfl
theorem c_lstM1 : kLstM1 (.ok vs s) = kLstM s (allD vs) := rfl
theorem c_tups : kTup s (some xs) = if xs.length ≤ most then .ok (.d (.tup xs)) s else .bad := Eq.trans rfl rfl
theorem c_lsts : kLst s (some xs) = if xs.length ≤ most then .ok (.d (.lst xs)) s else .bad := Eq.trans rfl rfl
theorem c_lstMs : kLstM s (some xs) = if xs.length ≤ most then .ok (.f (.lst xs)) s else .bad := Eq.trans rfl rfl
def kMapCons (x : D) : Option (List D) → Option (List D)
  | some xs => some (x :: xs)
  | none => none
theorem c_all_nil : allD [] = some [] := rfl
theorem c_all_d : allD (.d x :: vs) = kMapCons x (allD vs) := by show (match allD vs with | some xs => some (x :: xs) | none => none) = _; unfold kMapCons; cases allD vs <;> rfl
theorem c_mc : kMapCons x (some xs) = some (x :: xs) := rfl
theorem c_noPart : fNoPart s = .ok none s := rfl
def kPart : Rs FV → Rs (Option Int) := fun r => r.bind fun v fs1 => match v with
  | .d (.int i) => .ok (some i) fs1
  | _ => .bad
theorem c_part : fPart fe s = kPart (fe s) := rfl
theorem c_part_i {i : Int} : kPart (.ok (.d (.int i)) s) = .ok (some i) s := rfl
abbrev GS := D → Option Int → Option Int → Option D
def kSl3 (g : GS) (v : FV) (lo : Option Int) : Rs (Option Int) → Rs FV := fun r => r.bind fun hi s => match rsv s v with
    | some x => match g x lo hi with
      | some z => .ok (.d z) s
      | none => .bad
    | none => .bad
def kSl2 (g : GS) (fh : FO) (v : FV) : Rs (Option Int) → Rs FV := fun r => r.bind fun lo fs2 => kSl3 g v lo (fh fs2)
def kSl1 (g : GS) (fl fh : FO) : Rs FV → Rs FV := fun r => r.bind fun v fs1 => match v with
  | .f _ => .bad
  | v => kSl2 g fh v (fl fs1)
def kSl4 (g : GS) (lo hi : Option Int) (s : FS) : Option D → Rs FV
  | some x => kRet s (g x lo hi)
  | none => .bad
theorem c_sl {g : GS} : fSl g fe fl fh s = kSl1 g fl fh (fe s) := by
  unfold fSl kSl1
  cases fe s with
  | bad => rfl
  | ex _ _ => rfl
  | ok v s1 => cases v <;> rfl
theorem c_sl1_d {g : GS} : kSl1 g fl fh (.ok (.d x) s) = kSl2 g fh (.d x) (fl s) := rfl
theorem c_sl1_s {g : GS} : kSl1 g fl fh (.ok (.s i) s) = kSl2 g fh (.s i) (fl s) := rfl
theorem c_sl2 {g : GS} {lo : Option Int} : kSl2 g fh v (.ok lo s) = kSl3 g v lo (fh s) := rfl
theorem c_sl3 {g : GS} {lo hi : Option Int} : kSl3 g v lo (.ok hi s) = kSl4 g lo hi s (rsv s v) := by
  show (match rsv s v with | some x => _ | none => _) = _
  unfold kSl4 kRet
  cases rsv s v <;> rfl
theorem c_sl4 {g : GS} {lo hi : Option Int} : kSl4 g lo hi s (some x) = kRet s (g x lo hi) := rfl
def kCB (fon : FOn) : Rs (List FV) → Rs FV := fun r => r.bind fun vs fs1 => fon fs1 vs
theorem c_cb : fCB fon fr s = kCB fon (fr s) := rfl
theorem c_cb1 : kCB fon (.ok vs s) = fon s vs := rfl
def kOpn (g : List D → Option D) (s : FS) : Option (List D) → Rs FV
  | some as => kRet s (g as)
  | none => .bad
theorem c_opn {g : List D → Option D} : opn g s vs = kOpn g s (rsvs s vs) := by unfold opn kOpn kRet; cases rsvs s vs <;> rfl
theorem c_opns {g : List D → Option D} : kOpn g s (some xs) = kRet s (g xs) := rfl
def kRetM (s : FS) : Option M → Rs FV
  | some z => .ok (.f z) s
  | none => .bad
theorem c_retM : kRetM s (some mo) = .ok (.f mo) s := rfl
def kOpm (g : List D → Option M) (s : FS) : Option (List D) → Rs FV
  | some as => kRetM s (g as)
  | none => .bad
theorem c_opm {g : List D → Option M} : opm g s vs = kOpm g s (rsvs s vs) := by unfold opm kOpm kRetM; cases rsvs s vs <;> rfl
theorem c_opms {g : List D → Option M} : kOpm g s (some xs) = kRetM s (g xs) := rfl
def kRsvs (o : Option D) : Option (List D) → Option (List D)
  | some xs => match o with | some x => some (x :: xs) | none => none
  | none => none
theorem c_rsvs_nil : rsvs s [] = some [] := rfl
theorem c_rsvs : rsvs s (v :: vs) = kRsvs (rsv s v) (rsvs s vs) := by
  show (match rsv s v, rsvs s vs with | some x, some xs => some (x :: xs) | _, _ => none) = _
  unfold kRsvs; cases rsv s v <;> cases rsvs s vs <;> rfl
theorem c_rsvs1 : kRsvs (some x) (some xs) = some (x :: xs) := rfl
def kUn (g : D → Option D) : Rs FV → Rs FV := fun r => r.bind fun v fs1 => match rsv fs1 v with
  | some x => match g x with
    | some z => .ok (.d z) fs1
    | none => .bad
  | none => .bad
def kUn1 (g : D → Option D) (s : FS) : Option D → Rs FV
  | some x => kRet s (g x)
  | none => .bad
theorem c_un {g : D → Option D} : fUn g fe s = kUn g (fe s) := rfl
theorem c_un1 {g : D → Option D} : kUn g (.ok v s) = kUn1 g s (rsv s v) := by
  show (match rsv s v with | some x => _ | none => _) = _
  unfold kUn1 kRet; cases rsv s v <;> rfl
theorem c_un2 {g : D → Option D} : kUn1 g s (some x) = kRet s (g x) := rfl
abbrev GM := D → List D → Option D
def kM13 (g : GM) (z : Str) (s : FS) : Option D → Rs FV
  | some y => kRet s (g (.str z) [y])
  | none => .bad
def kM12 (g : GM) (z : Str) : Rs FV → Rs FV := fun r => r.bind fun w s => kM13 g z s (rsv s w)
def kM11 (g : GM) (fb : FE) : Rs FV → Rs FV := fun r => r.bind fun v s => match v with
  | .d (.str z) => kM12 g z (fb s)
  | _ => .bad
theorem c_m1 {g : GM} : fM1 g fa fb s = kM11 g fb (fa s) := by
  unfold fM1 kM11
  cases fa s with
  | bad => rfl
  | ex _ _ => rfl
  | ok v s1 =>
    cases v with
    | s _ => rfl
    | f _ => rfl
    | d x =>
      cases x with
      | str z =>
        show (fb s1).bind _ = kM12 g z (fb s1)
        unfold kM12
        cases fb s1 with
        | bad => rfl
        | ex _ _ => rfl
        | ok w s2 => show (match rsv s2 w with | some y => _ | none => _) = kM13 g z s2 (rsv s2 w); unfold kM13 kRet; cases rsv s2 w <;> rfl
      | _ => rfl
theorem c_m11 {g : GM} {z : Str} : kM11 g fb (.ok (.d (.str z)) s) = kM12 g z (fb s) := rfl
theorem c_m12 {g : GM} {z : Str} : kM12 g z (.ok w s) = kM13 g z s (rsv s w) := rfl
theorem c_m13 {g : GM} {z : Str} : kM13 g z s (some y) = kRet s (g (.str z) [y]) := rfl
def kFld1 (cs : List Addr) (f : Str) (s : FS) : Option D → Rs FV
  | some (.obj C ns es) => if cs.contains C then kRet s (lkp ns es f) else .bad
  | _ => .bad
def kFld (cs : List Addr) (f : Str) : Rs FV → Rs FV := fun r => r.bind fun v s => kFld1 cs f s (rsv s v)
theorem c_fld {cs : List Addr} : fFld cs fn fa s = kFld cs fn (fa s) := by
  unfold fFld kFld
  cases fa s with
  | bad => rfl
  | ex _ _ => rfl
  | ok v s1 =>
    show (match rsv s1 v with | some (.obj C ns es) => _ | _ => _) = kFld1 cs fn s1 (rsv s1 v)
    unfold kFld1 kRet
    cases rsv s1 v with
    | none => rfl
    | some x => cases x <;> rfl
theorem c_fld1 {cs : List Addr} : kFld cs fn (.ok v s) = kFld1 cs fn s (rsv s v) := rfl
theorem c_fld2 {cs : List Addr} : kFld1 cs fn s (some (.obj C ns xs)) = if cs.contains C then kRet s (lkp ns xs fn) else .bad := rfl
def kCF : Rs (FV × List Ar) → Rs FV := fun r => r.bind fun r fs' => match r.1 with
  | .s _ => .bad
  | v => .ok v fs'
theorem c_cf : callF mf s vs = kCF (callR mf s vs) := rfl
theorem c_cf_d : kCF (.ok (.d x, as) s) = .ok (.d x) s := rfl
theorem c_cf_f : kCF (.ok (.f mo, as) s) = .ok (.f mo) s := rfl
def kCR3 (r : FV × List Ar) : Option FS → Rs (FV × List Ar)
  | some s => .ok r s
  | none => .bad
def kCRx (x : D) : Option FS → Rs (FV × List Ar)
  | some s => .ex x s
  | none => .bad
def kCR2 (s : FS) (vs : List FV) : Rm → Rs (FV × List Ar)
  | .ok v as' => kCR3 (v, as') (putBack s vs as')
  | .ex x as' => kCRx x (putBack s vs as')
  | .bad => .bad
def kCR1 (mf : MF) (s : FS) (vs : List FV) : Option (List Ar) → Rs (FV × List Ar)
  | some as => if nodupB (slotsOf vs) then kCR2 s vs (mf as) else .bad
  | none => .bad
theorem c_cr : callR mf s vs = kCR1 mf s vs (arsOf s vs) := by
  unfold callR kCR1
  cases arsOf s vs with
  | none => rfl
  | some as =>
    dsimp only
    split
    · unfold kCR2 kCR3 kCRx
      cases mf as with
      | ok v as' => (try dsimp only) <;> (cases putBack s vs as' <;> rfl)
      | ex v as' => (try dsimp only) <;> (cases putBack s vs as' <;> rfl)
      | bad => rfl
    · rfl
theorem c_cr1 : kCR1 mf s vs (some as) = if nodupB (slotsOf vs) then kCR2 s vs (mf as) else .bad := rfl
theorem c_cr2 : kCR2 s vs (.ok v as) = kCR3 (v, as) (putBack s vs as) := rfl
theorem c_cr3 {r : FV × List Ar} : kCR3 r (some s) = .ok r s := rfl
def kNX : Rm → Rm
  | .ok v as' => .ok v as'
  | _ => .bad
theorem c_nox : noX mf as = kNX (mf as) := by unfold noX kNX; rfl
theorem c_nox_ok : kNX (.ok v as) = .ok v as := rfl
def kArs (a : Option Ar) : Option (List Ar) → Option (List Ar)
  | some as => match a with | some a => some (a :: as) | none => none
  | none => none
theorem c_ars_nil : arsOf s [] = some [] := rfl
theorem c_ars : arsOf s (v :: vs) = kArs (arOf s v) (arsOf s vs) := by
  show (match arOf s v, arsOf s vs with | some a, some as => some (a :: as) | _, _ => none) = _
  unfold kArs; cases arOf s v <;> cases arsOf s vs <;> rfl
theorem c_ars1 {a : Ar} : kArs (some a) (some as) = some (a :: as) := rfl
theorem c_ar_d : arOf s (.d x) = some (.d x) := rfl
theorem c_ar_f : arOf s (.f mo) = some (.m mo) := rfl
def kAr : Option (Option Sv) → Option Ar
  | some (some (.m _ o)) => some (.m o)
  | _ => none
theorem c_ar_s : arOf s (.s i) = kAr s[i]? := by show (match s[i]? with | some (some (.m _ o)) => some (Ar.m o) | _ => none) = _; unfold kAr; rfl
theorem c_ar_m : kAr (some (some (.m pr mo))) = some (.m mo) := rfl
theorem c_so_nil : slotsOf [] = [] := rfl
theorem c_so_d : slotsOf (.d x :: vs) = slotsOf vs := rfl
theorem c_so_f : slotsOf (.f mo :: vs) = slotsOf vs := rfl
theorem c_so_s : slotsOf (.s i :: vs) = i :: slotsOf vs := rfl
theorem c_nd_nil : nodupB [] = true := rfl
theorem c_nd {is : List Nat} : nodupB (i :: is) = (!is.contains i && nodupB is) := rfl
theorem c_pb_nil : putBack s [] [] = some s := rfl
theorem c_pb_d : putBack s (.d x :: vs) (.d y :: as) = putBack s vs as := rfl
theorem c_pb_f {m' : M} : putBack s (.f mo :: vs) (.m m' :: as) = putBack s vs as := rfl
def kPB (i : Nat) (o : M) (s : FS) (vs : List FV) (as : List Ar) : Option (Option Sv) → Option FS
  | some (some (.m pr _)) => putBack (s.set i (some (.m pr o))) vs as
  | _ => none
theorem c_pb_s : putBack s (.s i :: vs) (.m mo :: as) = kPB i mo s vs as s[i]? := by
  show (match s[i]? with | some (some (.m pr _)) => putBack (s.set i (some (.m pr mo))) vs as | _ => none) = _
  unfold kPB; rfl
theorem c_pb_m {m' : M} : kPB i mo s vs as (some (some (.m pr m'))) = putBack (s.set i (some (.m pr mo))) vs as := rfl
def kCall (mf : MF) (dds : List D) : Rs (List FV) → Rs FV := fun r => r.bind fun vs fs1 => callF mf fs1 (vs ++ dds.map FV.d)
theorem c_call {dds : List D} : fCall mf dds fr s = kCall mf dds (fr s) := rfl
theorem c_call1 {dds : List D} : kCall mf dds (.ok vs s) = callF mf s (vs ++ dds.map FV.d) := rfl
theorem c_stat {dds : List D} : fStat mf dds fr s = kCall mf dds (fr s) := rfl
def kCallK2 (mf : MF) (n m : Nat) (idx : List Nat) (vs : List FV) : Rs (List FV) → Rs FV := fun r => r.bind fun ws fs2 => if vs.length = n ∧ ws.length = m ∧ ws.any FV.isF = false then callF mf fs2 (pick idx (vs ++ ws)) else .bad
def kCallK (mf : MF) (n m : Nat) (idx : List Nat) (fk : FA) : Rs (List FV) → Rs FV := fun r => r.bind fun vs fs1 => if vs.any FV.isF then .bad else kCallK2 mf n m idx vs (fk fs1)
theorem c_callK {idx : List Nat} : fCallK mf n m idx fr fk s = kCallK mf n m idx fk (fr s) := rfl
theorem c_callK1 {idx : List Nat} : kCallK mf n m idx fk (.ok vs s) = if vs.any FV.isF then .bad else kCallK2 mf n m idx vs (fk s) := rfl
theorem c_callK2 {idx : List Nat} : kCallK2 mf n m idx vs (.ok ws s) = if vs.length = n ∧ ws.length = m ∧ ws.any FV.isF = false then callF mf s (pick idx (vs ++ ws)) else .bad := rfl
theorem c_isF_d : FV.isF (.d x) = false := rfl
theorem c_isF_s : FV.isF (.s i) = false := rfl
theorem c_isF_f : FV.isF (.f mo) = true := rfl
theorem c_isS_d : FV.isS (.d x) = false := rfl
theorem c_isS_s : FV.isS (.s i) = true := rfl
theorem c_isS_f : FV.isS (.f mo) = false := rfl
def kMeth2 (mf : MF) (dds : List D) (v : FV) : Rs (List FV) → Rs FV := fun r => r.bind fun vs fs2 => callF mf fs2 (v :: (vs ++ dds.map FV.d))
def kMeth (C : Addr) (m : Str) (mf : MF) (dds : List D) (fr : FA) : Rs FV → Rs FV := fun r => r.bind fun v fs1 => if v.isF = false ∧ isObj C m (rsv fs1 v) = true then kMeth2 mf dds v (fr fs1) else .bad
theorem c_meth {dds : List D} : fMeth C fn mf dds fo fr s = kMeth C fn mf dds fr (fo s) := rfl
theorem c_meth1 {dds : List D} : kMeth C fn mf dds fr (.ok v s) = if v.isF = false ∧ isObj C fn (rsv s v) = true then kMeth2 mf dds v (fr s) else .bad := rfl
theorem c_meth2 {dds : List D} : kMeth2 mf dds v (.ok vs s) = callF mf s (v :: (vs ++ dds.map FV.d)) := rfl
theorem c_isObj {C' : Addr} : isObj C fn (some (.obj C' ns xs)) = (decide (C' = C) && (lkp ns xs fn).isNone) := rfl
def kMethK3 (mf : MF) (n q : Nat) (idx : List Nat) (dds : List D) (v : FV) (vs : List FV) : Rs (List FV) → Rs FV := fun r => r.bind fun ws fs3 => if vs.length = n ∧ ws.length = q ∧ ws.any FV.isF = false then callF mf fs3 (pick idx ((v :: vs) ++ (ws ++ dds.map FV.d))) else .bad
def kMethK2 (mf : MF) (n q : Nat) (idx : List Nat) (dds : List D) (fk : FA) (v : FV) : Rs (List FV) → Rs FV := fun r => r.bind fun vs fs2 => if vs.any FV.isF then .bad else kMethK3 mf n q idx dds v vs (fk fs2)
def kMethK (C : Addr) (m : Str) (mf : MF) (n q : Nat) (idx : List Nat) (dds : List D) (fr fk : FA) : Rs FV → Rs FV := fun r => r.bind fun v fs1 => if v.isF = false ∧ isObj C m (rsv fs1 v) = true then kMethK2 mf n q idx dds fk v (fr fs1) else .bad
theorem c_methK {dds : List D} {idx : List Nat} : fMethK C fn mf n m idx dds fo fr fk s = kMethK C fn mf n m idx dds fr fk (fo s) := rfl
theorem c_methK1 {dds : List D} {idx : List Nat} : kMethK C fn mf n m idx dds fr fk (.ok v s) = if v.isF = false ∧ isObj C fn (rsv s v) = true then kMethK2 mf n m idx dds fk v (fr s) else .bad := rfl
theorem c_methK2 {dds : List D} {idx : List Nat} : kMethK2 mf n m idx dds fk v (.ok vs s) = if vs.any FV.isF then .bad else kMethK3 mf n m idx dds v vs (fk s) := rfl
theorem c_methK3 {dds : List D} {idx : List Nat} : kMethK3 mf n m idx dds v vs (.ok ws s) = if vs.length = n ∧ ws.length = m ∧ ws.any FV.isF = false then callF mf s (pick idx ((v :: vs) ++ (ws ++ dds.map FV.d))) else .bad := rfl
def kMk2 (C : Addr) : Rs (FV × List Ar) → Rs FV := fun r => r.bind fun r fs2 => match madeO C r with
  | some o => .ok (.d (mD o)) fs2
  | none => .bad
def kMk (C : Addr) (mf : MF) (dds : List D) : Rs (List FV) → Rs FV := fun r => r.bind fun vs fs1 => kMk2 C (callR mf fs1 (.f (.ins C [] []) :: (vs ++ dds.map FV.d)))
theorem c_mk {dds : List D} : fMake C mf dds fr s = kMk C mf dds (fr s) := rfl
theorem c_mk1 {dds : List D} : kMk C mf dds (.ok vs s) = kMk2 C (callR mf s (.f (.ins C [] []) :: (vs ++ dds.map FV.d))) := rfl
theorem c_mk2 : kMk2 C (.ok (.d .non, .m (.ins C ns xs) :: as) s) = .ok (.d (.obj C ns xs)) s := by
  show (match madeO C (.d .non, .m (.ins C ns xs) :: as) with | some o => Rs.ok (FV.d (mD o)) s | none => .bad) = _
  have : madeO C (.d .non, .m (.ins C ns xs) :: as) = some (.ins C ns xs) := by show (if C = C then some _ else none) = _; rw [if_pos rfl]
  rw [this]; rfl
def kMkM2 (C : Addr) : Rs (FV × List Ar) → Rs FV := fun r => r.bind fun r fs2 => match madeO C r with
  | some o => .ok (.f o) fs2
  | none => .bad
def kMkM (C : Addr) (mf : MF) (dds : List D) : Rs (List FV) → Rs FV := fun r => r.bind fun vs fs1 => kMkM2 C (callR mf fs1 (.f (.ins C [] []) :: (vs ++ dds.map FV.d)))
theorem c_mkM {dds : List D} : fMakeM C mf dds fr s = kMkM C mf dds (fr s) := rfl
theorem c_mkM1 {dds : List D} : kMkM C mf dds (.ok vs s) = kMkM2 C (callR mf s (.f (.ins C [] []) :: (vs ++ dds.map FV.d))) := rfl
theorem c_mkM2 : kMkM2 C (.ok (.d .non, .m (.ins C ns xs) :: as) s) = .ok (.f (.ins C ns xs)) s := by
  show (match madeO C (.d .non, .m (.ins C ns xs) :: as) with | some o => Rs.ok (FV.f o) s | none => .bad) = _
  have : madeO C (.d .non, .m (.ins C ns xs) :: as) = some (.ins C ns xs) := by show (if C = C then some _ else none) = _; rw [if_pos rfl]
  rw [this]
theorem c_own : fOwn C mf s v w = if v.isF = false ∧ w.isF = false ∧ isOb C (rsv s v) = true ∧ isOb C (rsv s w) = true then callF (noX mf) s [v, w] else .bad := rfl
theorem c_isOb {C' : Addr} : isOb C (some (.obj C' ns xs)) = decide (C' = C) := rfl
def kApp3 (k : Nat) (z : D) (s : FS) : Option (Option Sv) → Rs FV
  | some (some (.m pr (.lst xs))) => if xs.length < most then .ok (.d .non) (s.set k (some (.m pr (.lst (xs ++ [z]))))) else .bad
  | _ => .bad
def kApp2 (v : FV) : Rs (List FV) → Rs FV := fun r => r.bind fun vs fs2 => match v, vs with
  | .s k, [.d z] => kApp3 k z fs2 fs2[k]?
  | _, _ => .bad
def kApp (fr : FA) : Rs FV → Rs FV := fun r => r.bind fun v fs1 => if isLs fs1 v = true then kApp2 v (fr fs1) else .bad
theorem c_app : fApp fo fr s = kApp fr (fo s) := by
  unfold fApp kApp
  cases fo s with
  | bad => rfl
  | ex _ _ => rfl
  | ok v s1 =>
    show (if isLs s1 v = true then _ else Rs.bad) = (if isLs s1 v = true then _ else Rs.bad)
    congr 1
theorem c_app1 : kApp fr (.ok v s) = if isLs s v = true then kApp2 v (fr s) else .bad := rfl
theorem c_app2 : kApp2 (.s k) (.ok [.d z] s) = kApp3 k z s s[k]? := rfl
theorem c_app3 : kApp3 k z s (some (some (.m pr (.lst xs)))) = if xs.length < most then .ok (.d .non) (s.set k (some (.m pr (.lst (xs ++ [z]))))) else .bad := Eq.trans rfl rfl
def kIsLs : Option M → Bool
  | some (.lst _) => true
  | _ => false
theorem c_isLs : isLs s (.s k) = kIsLs (slotM s k) := by show (match slotM s k with | some (.lst _) => true | _ => false) = _; unfold kIsLs; rfl
theorem c_isLs1 : kIsLs (some (.lst xs)) = true := rfl
def kFrz1 (i : Nat) (s : FS) : Option (Option Sv) → Rs FV
  | some (some (.m false o)) => .ok (.d (mD o)) (s.set i none)
  | _ => .bad
def kFrz : Rs FV → Rs FV := fun r => r.bind fun v fs1 => match v with
  | .d x => .ok (.d x) fs1
  | .f o => .ok (.d (mD o)) fs1
  | .s i => kFrz1 i fs1 fs1[i]?
theorem c_frz : fFrz fe s = kFrz (fe s) := by
  unfold fFrz kFrz
  cases fe s with
  | bad => rfl
  | ex _ _ => rfl
  | ok v s1 => cases v <;> rfl
theorem c_frz_d : kFrz (.ok (.d x) s) = .ok (.d x) s := rfl
theorem c_frz_f : kFrz (.ok (.f mo) s) = .ok (.d (mD mo)) s := rfl
theorem c_frz_s : kFrz (.ok (.s i) s) = kFrz1 i s s[i]? := rfl
theorem c_frz1 : kFrz1 i s (some (some (.m false mo))) = .ok (.d (mD mo)) (s.set i none) := rfl
theorem c_seq : sSeq f g s = (f s).seq g := rfl
theorem c_seq_nx : (O.nx s).seq g = g s := rfl
theorem c_seq_rt : (O.rt v s).seq g = .rt v s := rfl
theorem c_seq_bad : (O.bad).seq g = .bad := rfl
theorem c_seq_bk : (O.bk s).seq g = .bk s := rfl
theorem c_seq_ct : (O.ct s).seq g = .ct s := rfl
theorem c_next : sNext s = .nx s := rfl
theorem c_brk : sBreak s = .bk s := rfl
theorem c_cnt : sCont s = .ct s := rfl
theorem c_never : sNever s = .bad := rfl
def kIf (f g : FSt) : Rs Bool → O := fun r => r.thn fun b fs1 => if b = true then f fs1 else g fs1
theorem c_if : sIf ft f g s = kIf f g (ft s) := rfl
theorem c_if_b : kIf f g (.ok b s) = if b = true then f s else g s := rfl
def kDrop : Rs FV → O := fun r => r.thn fun _ fs1 => .nx fs1
theorem c_drop : sDrop fe s = kDrop (fe s) := rfl
theorem c_drop1 : kDrop (.ok v s) = .nx s := rfl
def kRt : Rs FV → O := fun r => r.thn fun v fs1 => .rt v fs1
theorem c_rt : sRet fe s = kRt (fe s) := rfl
theorem c_rt1 : kRt (.ok v s) = .rt v s := rfl
theorem c_rtN : sRetN s = .rt (.d .non) s := rfl
def kNx : Option FS → O
  | some s => .nx s
  | none => .bad
theorem c_nx : kNx (some s) = .nx s := rfl
def kAsg (g : FG) : Rs FV → O := fun r => r.thn fun v fs1 => kNx (g v fs1)
theorem c_asg {g : FG} : sAsg fe g s = kAsg g (fe s) := by
  unfold sAsg kAsg kNx
  cases fe s with
  | bad => rfl
  | ex _ _ => rfl
  | ok v s1 => show (match g v s1 with | some fs2 => O.nx fs2 | none => .bad) = _; rfl
theorem c_asg1 {g : FG} : kAsg g (.ok v s) = kNx (g v s) := rfl
def kPar (is : List Nat) : Rs (List FV) → O := fun r => r.thn fun vs fs1 => if vs.all (fun v => !v.isS) then kNx (storeN is vs fs1) else .bad
theorem c_par {is : List Nat} : sPar is fr s = kPar is (fr s) := by
  unfold sPar kPar kNx
  cases fr s with
  | bad => rfl
  | ex _ _ => rfl
  | ok v s1 => rfl
theorem c_par1 {is : List Nat} : kPar is (.ok vs s) = if vs.all (fun v => !v.isS) then kNx (storeN is vs s) else .bad := rfl
def kStore (is : List Nat) (vs : List FV) : Option FS → Option FS
  | some s => storeN is vs s
  | none => none
theorem c_store_nil : storeN [] [] s = some s := rfl
theorem c_store {is : List Nat} : storeN (i :: is) (v :: vs) s = if v.isS = true then none else kStore is vs (gName i v s) := by
  show (if v.isS = true then none else match gName i v s with | some fs1 => storeN is vs fs1 | none => none) = _
  unfold kStore; rfl
theorem c_store1 {is : List Nat} : kStore is vs (some s) = storeN is vs s := rfl
theorem c_name_d : gName i (.d x) s = if isL s i = true then none else some (s.set i (some (.d x))) := rfl
theorem c_name_f : gName i (.f mo) s = if isL s i = true then none else some (s.set i (some (.m false mo))) := rfl
def kMove (i j : Nat) (s : FS) : Option (Option Sv) → Option FS
  | some (some (.m false o)) => some ((s.set j none).set i (some (.m false o)))
  | _ => none
theorem c_name_s : gName i (.s j) s = if isL s i = true then none else kMove i j s s[j]? := by
  show (if isL s i = true then none else match s[j]? with | some (some (.m false o)) => some ((s.set j none).set i (some (.m false o))) | _ => none) = _
  unfold kMove; rfl
theorem c_move : kMove i j s (some (some (.m false mo))) = some ((s.set j none).set i (some (.m false mo))) := rfl
def kIsL : Option (Option Sv) → Bool
  | some (some (.l _)) => true
  | _ => false
theorem c_isL : isL s i = kIsL s[i]? := by unfold isL kIsL; rfl
theorem c_isL_d : kIsL (some (some (.d x))) = false := rfl
theorem c_isL_m : kIsL (some (some (.m pr mo))) = false := rfl
theorem c_isL_l : kIsL (some (some (.l mo))) = true := rfl
theorem c_isL_n : kIsL (some none) = false := rfl
theorem c_isL_nn : kIsL none = false := rfl
theorem c_gtup {gs : FGs} : DL.gTup n gs (.d (.tup xs)) s = if xs.length = n then gs xs s else none := rfl
theorem c_fg_nil : fgNil [] s = some s := rfl
def kFg (gs : FGs) (r : List D) : Option FS → Option FS
  | some s => gs r s
  | none => none
theorem c_fg {g : FG} {gs : FGs} : fgCons g gs (x :: xs) s = kFg gs xs (g (.d x) s) := by
  show (match g (.d x) s with | some fs1 => gs xs fs1 | none => none) = _
  unfold kFg; rfl
theorem c_fg1 {gs : FGs} : kFg gs xs (some s) = gs xs s := rfl
abbrev GT := M → D → D → Option M
def kSub4 (k : Nat) (pr : Bool) (s : FS) : Option M → Option FS
  | some o' => some (s.set k (some (.m pr o')))
  | none => none
def kSub3 (gs : GT) (z : D) (k : Nat) (s : FS) : Option D → Option (Option Sv) → Option FS
  | some y, some (some (.m pr o)) => kSub4 k pr s (gs o y z)
  | _, _ => none
def kSub2 (gs : GT) (z : D) (k : Nat) : Rs FV → Option FS
  | .ok w s => kSub3 gs z k s (rsv s w) s[k]?
  | _ => none
def kSub1 (gs : GT) (fi : FE) (z : D) : Rs FV → Option FS
  | .ok (.s k) s => kSub2 gs z k (fi s)
  | _ => none
theorem c_sub {gs : GT} : DL.gSub gs fo fe (.d z) s = kSub1 gs fe z (fo s) := by
  unfold DL.gSub kSub1
  dsimp only
  cases fo s with
  | bad => rfl
  | ex _ _ => rfl
  | ok v s1 =>
    cases v with
    | d _ => rfl
    | f _ => rfl
    | s k =>
      dsimp only
      unfold kSub2
      cases fe s1 with
      | bad => rfl
      | ex _ _ => rfl
      | ok w s2 =>
        dsimp only
        unfold kSub3 kSub4
        cases rsv s2 w with
        | none => rfl
        | some y => rfl
theorem c_sub1 {gs : GT} : kSub1 gs fe z (.ok (.s k) s) = kSub2 gs z k (fe s) := rfl
theorem c_sub2 {gs : GT} : kSub2 gs z k (.ok w s) = kSub3 gs z k s (rsv s w) s[k]? := rfl
theorem c_sub3 {gs : GT} : kSub3 gs z k s (some y) (some (some (.m pr mo))) = kSub4 k pr s (gs mo y z) := rfl
theorem c_sub4 : kSub4 k pr s (some mo) = some (s.set k (some (.m pr mo))) := rfl
def kFT2 (cs : List Addr) (f : Str) (z : D) (k : Nat) (s : FS) : Option (Option Sv) → Option FS
  | some (some (.m pr (.ins C ns es))) => if cs.contains C && decide (ns.length < 1000) then some (s.set k (some (.m pr (.ins C (putN ns f) (putD ns es f z))))) else none
  | _ => none
def kFT1 (cs : List Addr) (f : Str) (z : D) : Rs FV → Option FS
  | .ok (.s k) s => kFT2 cs f z k s s[k]?
  | _ => none
theorem c_ft {cs : List Addr} : gFldF cs fn fo (.d z) s = kFT1 cs fn z (fo s) := by
  unfold gFldF kFT1
  dsimp only
  cases fo s with
  | bad => rfl
  | ex _ _ => rfl
  | ok v s1 => cases v <;> rfl
theorem c_ft1 {cs : List Addr} : kFT1 cs fn z (.ok (.s k) s) = kFT2 cs fn z k s s[k]? := rfl
theorem c_ft2 {cs : List Addr} : kFT2 cs fn z k s (some (some (.m pr (.ins C ns xs)))) = if cs.contains C && decide (ns.length < 1000) then some (s.set k (some (.m pr (.ins C (putN ns fn) (putD ns xs fn z))))) else none := rfl
def kAug3 (i : Nat) : Rs FV → O := fun r => r.thn fun z s => kNx (gName i z s)
def kAug2 (i : Nat) (o : FO2) (x : D) : Rs FV → O := fun r => r.thn fun y s => kAug3 i (o s (.d x) y)
def kAug1 (i : Nat) (fe : FE) (o : FO2) (s : FS) : Option (Option Sv) → O
  | some (some (.d x)) => kAug2 i o x (fe s)
  | _ => .bad
theorem c_aug : sAug i fe o s = kAug1 i fe o s s[i]? := by
  unfold sAug kAug1 kAug2 kAug3 kNx
  rfl
theorem c_aug1 : kAug1 i fe o s (some (some (.d x))) = kAug2 i o x (fe s) := rfl
theorem c_aug2 : kAug2 i o x (.ok w s) = kAug3 i (o s (.d x) w) := rfl
theorem c_aug3 : kAug3 i (.ok w s) = kNx (gName i w s) := rfl
def kIA : Rs FV → Rs (List D × Option (Nat × M)) := fun r => r.bind fun v fs1 => match v with
  | .d (.lst xs) => .ok (xs, none) fs1
  | .d (.tup xs) => .ok (xs, none) fs1
  | .d (.str x) => .ok (signs x, none) fs1
  | .s k => match slotM fs1 k with
    | some (.lst xs) => .ok (xs, some (k, .lst xs)) fs1
    | _ => .bad
  | _ => .bad
theorem c_ia : fIA fe s = kIA (fe s) := rfl
theorem c_ia_l : kIA (.ok (.d (.lst xs)) s) = .ok (xs, none) s := rfl
theorem c_ia_t : kIA (.ok (.d (.tup xs)) s) = .ok (xs, none) s := rfl
theorem c_ia_s {z : Str} : kIA (.ok (.d (.str z)) s) = .ok (signs z, none) s := rfl
def kIR1 : Rs (List FV) → Rs (List D × Option (Nat × M)) := fun r => r.bind fun vs fs1 => match vs with
  | [.d (.int j)] => if decide (-4611686018427387904 ≤ j) && decide (j < 4611686018427387904) then .ok (iota 0 j.toNat, none) fs1 else .bad
  | _ => .bad
theorem c_ir1 : fIR1 fr s = kIR1 (fr s) := rfl
theorem c_ir1_i {j : Int} : kIR1 (.ok [.d (.int j)] s) = if decide (-4611686018427387904 ≤ j) && decide (j < 4611686018427387904) then .ok (iota 0 j.toNat, none) s else .bad := Eq.trans rfl rfl
def kIR2 : Rs (List FV) → Rs (List D × Option (Nat × M)) := fun r => r.bind fun vs fs1 => match vs with
  | [.d (.int i), .d (.int j)] => if decide (-4611686018427387904 ≤ i) && decide (i < 4611686018427387904) && decide (-4611686018427387904 ≤ j) && decide (j < 4611686018427387904) then .ok (iota i (j - i).toNat, none) fs1 else .bad
  | _ => .bad
theorem c_ir2 : fIR2 fr s = kIR2 (fr s) := rfl
theorem c_ir2_i {i j : Int} : kIR2 (.ok [.d (.int i), .d (.int j)] s) = if decide (-4611686018427387904 ≤ i) && decide (i < 4611686018427387904) && decide (-4611686018427387904 ≤ j) && decide (j < 4611686018427387904) then .ok (iota i (j - i).toNat, none) s else .bad := Eq.trans rfl rfl
def kIZ : Rs (List FV) → Rs (List D × Option (Nat × M)) := fun r => r.bind fun vs fs1 => match vs with
  | [.d (.lst xs), .d (.lst ys)] => .ok (pairs xs ys, none) fs1
  | [.d (.tup xs), .d (.tup ys)] => .ok (pairs xs ys, none) fs1
  | [.s k, .d (.lst ys)] => match slotM fs1 k with
    | some (.lst xs) => .ok (pairs xs ys, some (k, .lst xs)) fs1
    | _ => .bad
  | _ => .bad
theorem c_iz : fIZ fr s = kIZ (fr s) := rfl
def kIZ1 (ys : List D) (k : Nat) (s : FS) : Option M → Rs (List D × Option (Nat × M))
  | some (.lst xs) => .ok (pairs xs ys, some (k, .lst xs)) s
  | _ => .bad
theorem c_iz_s : kIZ (.ok [.s k, .d (.lst ys)] s) = kIZ1 ys k s (slotM s k) := by
  show (match slotM s k with | some (.lst xs) => _ | _ => _) = _
  unfold kIZ1
  cases slotM s k with
  | none => rfl
  | some o => cases o <;> rfl
theorem c_iz_s1 : kIZ1 ys k s (some (.lst xs)) = .ok (pairs xs ys, some (k, .lst xs)) s := rfl
theorem c_iz_l : kIZ (.ok [.d (.lst xs), .d (.lst ys)] s) = .ok (pairs xs ys, none) s := rfl
theorem c_iz_t : kIZ (.ok [.d (.tup xs), .d (.tup ys)] s) = .ok (pairs xs ys, none) s := rfl
def kIE : Rs (List FV) → Rs (List D × Option (Nat × M)) := fun r => r.bind fun vs fs1 => match vs with
  | [.d (.lst xs)] => .ok (enumD 0 xs, none) fs1
  | _ => .bad
theorem c_ie : fIE fr s = kIE (fr s) := rfl
theorem c_ie_l : kIE (.ok [.d (.lst xs)] s) = .ok (enumD 0 xs, none) s := rfl
def kForK (g : FG) (body : FSt) (xs : List D) (k : Nat) (o : M) (s : FS) : Option (Option Sv) → O
  | some (some (.l _)) => fForL g body xs s
  | some (some (.m pr _)) => unlkO k pr (fForL g body xs (s.set k (some (.l o))))
  | _ => .bad
def kFor (g : FG) (body : FSt) : Rs (List D × Option (Nat × M)) → O := fun r => r.thn fun r s => match r.2 with
  | none => fForL g body r.1 s
  | some (k, o) => kForK g body r.1 k o s s[k]?
theorem c_for {fi : FI} {g : FG} {body : FSt} : sFor fi g body s = kFor g body (fi s) := by
  unfold sFor kFor
  cases fi s with
  | bad => rfl
  | ex _ _ => rfl
  | ok r s1 =>
    obtain ⟨xs, q⟩ := r
    cases q with
    | none => rfl
    | some ko => obtain ⟨k, o⟩ := ko; rfl
theorem c_for_n {g : FG} {body : FSt} : kFor g body (.ok (xs, none) s) = fForL g body xs s := rfl
theorem c_for_k {g : FG} {body : FSt} : kFor g body (.ok (xs, some (k, mo)) s) = kForK g body xs k mo s s[k]? := rfl
def kTurn (g : FG) (body : FSt) (xs : List D) : Option FS → O
  | some s => loopO (fForL g body xs) (body s)
  | none => .bad
theorem c_forL_nil {g : FG} {body : FSt} : fForL g body [] s = .nx s := rfl
theorem c_forL {g : FG} {body : FSt} : fForL g body (x :: xs) s = kTurn g body xs (g (.d x) s) := by
  show (match g (.d x) s with | none => O.bad | some fs1 => loopO (fForL g body xs) (body fs1)) = _
  unfold kTurn; cases g (.d x) s <;> rfl
theorem c_turn {g : FG} {body : FSt} : kTurn g body xs (some s) = loopO (fForL g body xs) (body s) := rfl
theorem c_loop_nx : loopO f (.nx s) = f s := rfl
theorem c_loop_ct : loopO f (.ct s) = f s := rfl
theorem c_loop_bk : loopO f (.bk s) = .nx s := rfl
theorem c_loop_rt : loopO f (.rt v s) = .rt v s := rfl
theorem c_def {N np : Nat} : defF N np f as = if as.length = np then finF as (f (startF N as)) else .bad := rfl
theorem c_start {N : Nat} : startF N as = as.map startA ++ List.replicate (N - as.length) none := rfl
theorem c_st_d : startA (.d x) = some (.d x) := rfl
theorem c_st_m : startA (.m mo) = some (.m true mo) := rfl
def kFin : Option FV → Option (List Ar) → Rm
  | some v, some as => .ok v as
  | _, _ => .bad
theorem c_fin_rt : finF as (.rt v s) = kFin (retV s v) (backA s 0 as) := by
  show (match retV s v, backA s 0 as with | some v', some as' => Rm.ok v' as' | _, _ => .bad) = _
  unfold kFin; rfl
theorem c_fin_nx : finF as (.nx s) = kFin (some (.d .non)) (backA s 0 as) := by
  show (match backA s 0 as with | some as' => Rm.ok (.d .non) as' | none => .bad) = _
  unfold kFin; cases backA s 0 as <;> rfl
theorem c_fin1 : kFin (some v) (some as) = .ok v as := rfl
theorem c_retV_d : retV s (.d x) = some (.d x) := rfl
theorem c_retV_f : retV s (.f mo) = some (.f mo) := rfl
def kRV : Option (Option Sv) → Option FV
  | some (some (.m false o)) => some (.f o)
  | _ => none
theorem c_retV_s : retV s (.s i) = kRV s[i]? := by show (match s[i]? with | some (some (.m false o)) => some (FV.f o) | _ => none) = _; unfold kRV; rfl
theorem c_rv : kRV (some (some (.m false mo))) = some (.f mo) := rfl
theorem c_back_nil : backA s i [] = some [] := rfl
def kBd (x : D) : Option (List Ar) → Option (List Ar)
  | some as => some (.d x :: as)
  | none => none
def kBm : Option (Option Sv) → Option (List Ar) → Option (List Ar)
  | some (some (.m true o)), some as => some (.m o :: as)
  | _, _ => none
theorem c_back_d : backA s i (.d x :: as) = kBd x (backA s (i + 1) as) := by
  show (match backA s (i + 1) as with | some as => some (Ar.d x :: as) | none => none) = _
  unfold kBd; cases backA s (i + 1) as <;> rfl
theorem c_back_m : backA s i (.m mo :: as) = kBm s[i]? (backA s (i + 1) as) := by
  show (match s[i]?, backA s (i + 1) as with | some (some (.m true o)), some as => some (Ar.m o :: as) | _, _ => none) = _
  unfold kBm; rfl
theorem c_bd : kBd x (some as) = some (.d x :: as) := rfl
theorem c_bm : kBm (some (some (.m true mo))) (some as) = some (.m mo :: as) := rfl
end
end DL
end
section
set_option Elab.async false
set_option linter.all false
set_option autoImplicit false
set_option maxRecDepth 100000
set_option maxHeartbeats 4000000
namespace DL
open PySem PySem.Spec PyProof.Rows L2
section
variable {i j : Int} {a b : Str} {xs ys : List D} {x y z : D} {p q : Bool} {C : Addr} {ns : List Str} {ks : List Key} {t n m : String} {lo hi : Option Int}
theorem vv_add_i : gAdd (.int i) (.int j) = some (.int (i + j)) := rfl
theorem vv_add_s : gAdd (.str a) (.str b) = if a.length + b.length ≤ most then some (.str (a ++ b)) else none := Eq.trans rfl rfl
theorem vv_add_t : gAdd (.tup xs) (.tup ys) = if xs.length + ys.length ≤ most then some (.tup (xs ++ ys)) else none := Eq.trans rfl rfl
theorem vv_add_l : gAdd (.lst xs) (.lst ys) = if xs.length + ys.length ≤ most then some (.lst (xs ++ ys)) else none := Eq.trans rfl rfl
theorem vv_addI : gAddI (.int i) (.int j) = some (.int (i + j)) := rfl
theorem vv_sub : gSubI (.int i) (.int j) = some (.int (i - j)) := rfl
theorem vv_mul : gMulI (.int i) (.int j) = if cMul i j = true then some (.int (i * j)) else none := Eq.trans rfl rfl
theorem vv_div : gDivI (.int i) (.int j) = if cDiv i j = true then some (.int (i / j)) else none := Eq.trans rfl rfl
theorem vv_mod : gModI (.int i) (.int j) = if 0 < j then some (.int (i % j)) else none := by
  show (if decide (0 < j) = true then _ else _) = _; simp
theorem vv_pow : gPowI (.int i) (.int j) = if cPow i j = true then some (.int (i ^ j.toNat)) else none := Eq.trans rfl rfl
theorem vv_mul_r (h1 : -18446744073709551616 < j) (h2 : j < 18446744073709551616) : gMulI (.int i) (.int j) = some (.int (i * j)) := by
  rw [vv_mul, if_pos]; unfold cMul; simp [h1, h2]
theorem vv_mul_l (h1 : -18446744073709551616 < i) (h2 : i < 18446744073709551616) : gMulI (.int i) (.int j) = some (.int (i * j)) := by
  rw [vv_mul, if_pos]; unfold cMul; simp [h1, h2]
theorem log2_lt60 {n : Int} (h : n.natAbs < 2 ^ 60) : n.natAbs.log2 < 9000 := by
  by_cases h0 : n.natAbs = 0
  · rw [h0]; decide
  · exact Nat.lt_of_lt_of_le ((Nat.log2_lt h0).mpr h) (by decide)
theorem vv_div_r (h1 : 0 < j) (h2 : j < 1152921504606846976) : gDivI (.int i) (.int j) = some (.int (i / j)) := by
  rw [vv_div, if_pos]; unfold cDiv; have := log2_lt60 (n := j) (by omega); simp [h1, this]
theorem vv_mod_r (h1 : 0 < j) : gModI (.int i) (.int j) = some (.int (i % j)) := by rw [vv_mod, if_pos h1]
theorem vv_pow_r (h1 : 0 ≤ j) (h2 : j ≤ 1000) (h3 : -1152921504606846976 < i) (h4 : i < 1152921504606846976) : gPowI (.int i) (.int j) = some (.int (i ^ j.toNat)) := by
  rw [vv_pow, if_pos]; unfold cPow; have : i.natAbs < 18446744073709551616 := by omega
  simp [h1, h2, this]
theorem vv_lt : gLtI (.int i) (.int j) = some (.bl (decide (i < j))) := rfl
theorem vv_le : gLeI (.int i) (.int j) = some (.bl (decide (i ≤ j))) := rfl
theorem vv_gt : gGtI (.int i) (.int j) = some (.bl (decide (j < i))) := rfl
theorem vv_ge : gGeI (.int i) (.int j) = some (.bl (decide (j ≤ i))) := rfl
theorem vv_neg : gNeg (.int i) = some (.int (-i)) := rfl
theorem vv_ix_l : gIx (.lst xs) (.int i) = L2.atI xs i := rfl
theorem vv_ix_t : gIx (.tup xs) (.int i) = L2.atI xs i := rfl
def kSg : Option Nat → Option D
  | some c => some (.str ⟨#[c]⟩)
  | none => none
theorem vv_ix_s : gIx (.str a) (.int i) = kSg (L2.atI a.cps.toList i) := by show (match L2.atI a.cps.toList i with | some c => _ | none => _) = _; unfold kSg; rfl
theorem vv_sg {c : Nat} : kSg (some c) = some (.str ⟨#[c]⟩) := rfl
theorem vv_cut_l : gCut (.lst xs) lo hi = some (.lst (cutD xs lo hi)) := rfl
theorem vv_cut_t : gCut (.tup xs) lo hi = some (.tup (cutD xs lo hi)) := rfl
theorem vv_cut_k : gCut (.klst xs) lo hi = some (.lst (cutD xs lo hi)) := rfl
theorem vv_cut_s : gCut (.str a) lo hi = some (.str (cutS a lo hi)) := rfl
theorem vv_rev : gRev (.lst xs) = some (.lst xs.reverse) := rfl
theorem vv_isN : gIsN x .non = some (.bl (isNonD x)) := by cases x <;> rfl
theorem vv_notN : gNotN x .non = some (.bl (!isNonD x)) := by cases x <;> rfl
theorem vv_nn_obj : isNonD (.obj C ns xs) = false := rfl
theorem vv_len_l : gLen [.lst xs] = some (.int xs.length) := rfl
theorem vv_len_t : gLen [.tup xs] = some (.int xs.length) := rfl
theorem vv_len_s : gLen [.str a] = some (.int a.length) := rfl
theorem vv_int_i : gInt [.int i] = some (.int i) := rfl
theorem vv_int_b : gInt [.bl p] = some (.int (b2I p)) := rfl
theorem vv_list_l : gList [.lst xs] = some (.lst xs) := rfl
theorem vv_list_t : gList [.tup xs] = some (.lst xs) := rfl
theorem vv_listM_l : gListM [.lst xs] = some (.lst xs) := rfl
theorem vv_listM_t : gListM [.tup xs] = some (.lst xs) := rfl
theorem vv_tuple_l : gTuple [.lst xs] = some (.tup xs) := rfl
theorem vv_tuple_t : gTuple [.tup xs] = some (.tup xs) := rfl
theorem vv_abs : gAbs [.int i] = some (.int (if i < 0 then -i else i)) := rfl
theorem vv_max : gMax [.int i, .int j] = some (.int (max i j)) := rfl
theorem vv_min : gMin [.int i, .int j] = some (.int (min i j)) := rfl
theorem vv_gcd : gGcd [.int i, .int j] = some (.int ((Nat.gcd i.natAbs j.natAbs : Nat) : Int)) := rfl
theorem blsOf_map : ∀ bs : List Bool, blsOf (bs.map D.bl) = some bs
  | [] => rfl
  | b :: bs => by show (match blsOf (bs.map D.bl) with | some bs => some (b :: bs) | none => none) = _; rw [blsOf_map bs]
theorem intsOf_map : ∀ bs : List Int, intsOf (bs.map D.int) = some bs
  | [] => rfl
  | b :: bs => by show (match intsOf (bs.map D.int) with | some bs => some (b :: bs) | none => none) = _; rw [intsOf_map bs]
theorem strsOf_map : ∀ bs : List Str, strsOf (bs.map D.str) = some bs
  | [] => rfl
  | b :: bs => by show (match strsOf (bs.map D.str) with | some bs => some (b :: bs) | none => none) = _; rw [strsOf_map bs]
theorem vv_all {bs : List Bool} : gAll [.lst (bs.map D.bl)] = some (.bl (bs.all id)) := by
  unfold gAll gOnL; simp only [lstD, blsOf_map]
theorem vv_any {bs : List Bool} : gAny [.lst (bs.map D.bl)] = some (.bl (bs.any id)) := by
  unfold gAny gOnL; simp only [lstD, blsOf_map]
theorem vv_sum {bs : List Int} : gSum [.lst (bs.map D.int)] = some (.int bs.sum) := by
  unfold gSum gOnL; simp only [lstD, intsOf_map]
theorem vv_maxL {bs : List Int} : gMaxL [.lst (bs.map D.int)] = optI (maxI bs) := by
  unfold gMaxL gOnL; simp only [lstD, intsOf_map]
theorem vv_minL {bs : List Int} : gMinL [.lst (bs.map D.int)] = optI (minI bs) := by
  unfold gMinL gOnL; simp only [lstD, intsOf_map]
theorem vv_sortI {bs : List Int} : gSortI [.lst (bs.map D.int)] = some (.lst ((sortI bs).map D.int)) := by
  unfold gSortI gOnL; simp only [lstD, intsOf_map]
theorem vv_rep {k : Int} : gRep (.lst xs) (.int k) = if decide (-4611686018427387904 ≤ k) && decide (k < 4611686018427387904) && decide (xs.length * k.toNat ≤ most) then some (.lst (List.replicate k.toNat xs).flatten) else none := Eq.trans rfl rfl
def kSetL (ds : List D) (z : D) : Option Nat → Option M
  | some j => some (.lst (ds.set j z))
  | none => none
theorem vv_setL : gSetL (.lst xs) (.int i) z = kSetL xs z (ixN xs.length i) := by show (match ixN xs.length i with | some j => _ | none => _) = _; unfold kSetL; rfl
theorem vv_setL1 {k : Nat} : kSetL xs z (some k) = some (.lst (xs.set k z)) := rfl
def kIs (n : String) : Option String → Option D
  | some a => if tyNames.contains n then some (.bl (isiB a n)) else none
  | none => none
theorem vv_isi : gIsi [x, .ty n] = kIs n (tyN0 x) := by show (match tyN0 x with | some a => _ | none => _) = _; unfold kIs; rfl
theorem vv_is : kIs n (some t) = if tyNames.contains n then some (.bl (isiB t n)) else none := rfl
def kIsT (ns : Option (List String)) : Option String → Option D
  | some a => match ns with
    | some ns => if (ns.all fun n => tyNames.contains n) = true then some (.bl (ns.any (isiB a))) else none
    | none => none
  | none => none
theorem vv_isiT {ts : List D} : gIsi [x, .tup ts] = kIsT (tysOf ts) (tyN0 x) := by
  show (match tyN0 x, tysOf ts with | some a, some ns => _ | _, _ => none) = _
  unfold kIsT; cases tyN0 x <;> cases tysOf ts <;> rfl
theorem vv_isT {ns : List String} : kIsT (some ns) (some t) = if (ns.all fun n => tyNames.contains n) = true then some (.bl (ns.any (isiB t))) else none := rfl
theorem vv_tys2 : tysOf [.ty n, .ty m] = some [n, m] := rfl
theorem vv_tys1 : tysOf [.ty n] = some [n] := rfl
theorem vv_ty_non : tyN0 .non = some "NoneType" := rfl
theorem vv_ty_bl : tyN0 (.bl p) = some "bool" := rfl
theorem vv_ty_int : tyN0 (.int i) = some "int" := rfl
theorem vv_ty_str : tyN0 (.str a) = some "str" := rfl
theorem vv_ty_lst : tyN0 (.lst xs) = some "list" := rfl
theorem vv_ty_tup : tyN0 (.tup xs) = some "tuple" := rfl
theorem vv_ty_dct : tyN0 (.dct ks xs) = some "dict" := rfl
theorem eqOk_l (h : pyOk x = true) (h1 : (toPy x).depth = 0) (h2 : pyOk y = true) : eqOk x y = true := by
  unfold eqOk; rw [h, h2, h1]; simp
theorem vv_eq (h : eqOk x y = true) : gEq x y = some (.bl (dEqv x y)) := by unfold gEq; rw [if_pos h]
theorem vv_ne (h : eqOk x y = true) : gNe x y = some (.bl (!dEqv x y)) := by unfold gNe; rw [if_pos h]
theorem vv_eq_i : gEq (.int i) (.int j) = some (.bl (decide (i = j))) := by rw [vv_eq (eqOk_l rfl (by simp [toPy, PyData.depth]) rfl), dEqv_int]
theorem vv_ne_i : gNe (.int i) (.int j) = some (.bl (!decide (i = j))) := by rw [vv_ne (eqOk_l rfl (by simp [toPy, PyData.depth]) rfl), dEqv_int]
theorem vv_eq_s : gEq (.str a) (.str b) = some (.bl (decide (a = b))) := by rw [vv_eq (eqOk_l rfl (by simp [toPy, PyData.depth]) rfl), dEqv_str]
theorem vv_ne_s : gNe (.str a) (.str b) = some (.bl (!decide (a = b))) := by rw [vv_ne (eqOk_l rfl (by simp [toPy, PyData.depth]) rfl), dEqv_str]
theorem vv_eq_b : gEq (.bl p) (.bl q) = some (.bl (decide (p = q))) := by rw [vv_eq (eqOk_l rfl (by simp [toPy, PyData.depth]) rfl), dEqv_bl]
theorem vv_ne_b : gNe (.bl p) (.bl q) = some (.bl (!decide (p = q))) := by rw [vv_ne (eqOk_l rfl (by simp [toPy, PyData.depth]) rfl), dEqv_bl]
theorem vv_eq_ni : gEq .non (.int j) = some (.bl false) := by rw [vv_eq (eqOk_l rfl (by simp [toPy, PyData.depth]) rfl), dEqv_non_int]
theorem vv_eq_in : gEq (.int i) .non = some (.bl false) := by rw [vv_eq (eqOk_l rfl (by simp [toPy, PyData.depth]) rfl), dEqv_int_non]
theorem vv_ne_ni : gNe .non (.int j) = some (.bl true) := by rw [vv_ne (eqOk_l rfl (by simp [toPy, PyData.depth]) rfl), dEqv_non_int]; rfl
theorem vv_ne_in : gNe (.int i) .non = some (.bl true) := by rw [vv_ne (eqOk_l rfl (by simp [toPy, PyData.depth]) rfl), dEqv_int_non]; rfl
theorem vv_eq_nn : gEq .non .non = some (.bl true) := by rw [vv_eq (eqOk_l rfl (by simp [toPy, PyData.depth]) rfl), dEqv_non]
theorem vv_eq_ns : gEq .non (.str a) = some (.bl false) := by rw [vv_eq (eqOk_l rfl (by simp [toPy, PyData.depth]) rfl), dEqv_non_str]
theorem vv_eq_sn : gEq (.str a) .non = some (.bl false) := by rw [vv_eq (eqOk_l rfl (by simp [toPy, PyData.depth]) rfl), dEqv_str_non]
theorem vv_eq_is : gEq (.int i) (.str a) = some (.bl false) := by rw [vv_eq (eqOk_l rfl (by simp [toPy, PyData.depth]) rfl), dEqv_int_str]
theorem vv_eq_si : gEq (.str a) (.int i) = some (.bl false) := by rw [vv_eq (eqOk_l rfl (by simp [toPy, PyData.depth]) rfl), dEqv_str_int]
theorem vv_in_t {neg : Bool} : gInB neg x (.tup xs) = if inOk x xs = true then some (.bl (neg ^^ dIn x xs)) else none := rfl
theorem pyOks_of {xs : List D} (h : ∀ x ∈ xs, pyOk x = true) : pyOks xs = true := by rw [pyOks_eq, List.all_eq_true]; exact h
/-- a text in a list, a tuple of texts -/
theorem inOk_s (h : ∀ y ∈ xs, pyOk y = true) : inOk (.str a) xs = true := by
  unfold inOk
  rw [pyOks_of h]
  simp [pyOk, toPy, PyData.depth]
theorem dIn_cons : dIn x (y :: ys) = (dEqv y x || dIn x ys) := rfl
end
section
variable {g : FG} {body : FSt}
/-- the word speaks of the state alone -/
theorem for_inv {items : List D} (I : FS → Prop) (step : ∀ x ∈ items, ∀ s, I s → ∃ s1, g (.d x) s = some s1 ∧ ∃ s2, (body s1 = .nx s2 ∨ body s1 = .ct s2) ∧ I s2) : ∀ (xs : List D), (∀ x ∈ xs, x ∈ items) → ∀ s, I s → ∃ s', fForL g body xs s = .nx s' ∧ I s'
  | [], _, s, h => ⟨s, rfl, h⟩
  | x :: xs, hm, s, h => by
    obtain ⟨s1, e1, s2, e2, h2⟩ := step x (hm x List.mem_cons_self) s h
    obtain ⟨s', e', h'⟩ := for_inv I step xs (fun y hy => hm y (List.mem_cons_of_mem _ hy)) s2 h2
    refine ⟨s', ?_, h'⟩
    rw [c_forL, e1, c_turn]
    rcases e2 with e2 | e2 <;> rw [e2] <;> exact e'
variable {ft : FT} {fe : FE} {vs : List Nat}
/-- a comprehension that changes nothing -/
theorem lcL_map (f : D → D) (W : FS) : ∀ (xs acc : List D), acc.length + xs.length ≤ most → (∀ x ∈ xs, ∃ s1, g (.d x) W = some s1 ∧ ∃ s3, fe s1 = .ok (.d (f x)) s3 ∧ wipeF s3 vs = W) → ∀ s, wipeF s vs = W → ∃ s', fLcL g fYes fe vs xs acc s = .ok (acc ++ xs.map f) s' ∧ wipeF s' vs = W
  | [], acc, _, _, s, h => ⟨s, by rw [List.map_nil, List.append_nil]; rfl, h⟩
  | x :: xs, acc, hl, hx, s, h => by
    obtain ⟨s1, e1, s3, e3, h3⟩ := hx x List.mem_cons_self
    rw [List.length_cons] at hl
    obtain ⟨s', e', h'⟩ := lcL_map f W xs (acc ++ [f x]) (by simp; omega) (fun y hy => hx y (List.mem_cons_of_mem _ hy)) s3 h3
    refine ⟨s', ?_, h'⟩
    show (match g (.d x) (wipeF s vs) with
      | none => Rs.bad
      | some fs1 => (fYes fs1).noEx fun b fs2 => if b = true then (fe fs2).noEx fun v fs3 => match v with
          | .d y => if acc.length < most then fLcL g fYes fe vs xs (acc ++ [y]) fs3 else .bad
          | _ => .bad
        else fLcL g fYes fe vs xs acc fs2) = _
    rw [h, e1]
    show ((fe s1).noEx fun v fs3 => match v with
          | .d y => if acc.length < most then fLcL g fYes fe vs xs (acc ++ [y]) fs3 else .bad
          | _ => .bad) = _
    rw [e3]
    show (if acc.length < most then fLcL g fYes fe vs xs (acc ++ [f x]) s3 else .bad) = _
    rw [if_pos (by omega), e']
    simp
theorem restF_of {s0 s' : FS} (h : wipeF s' vs = wipeF s0 vs) (hv : ∀ i ∈ vs, ∀ sv, s0[i]? = some (some sv) → ∃ x, sv = .d x) : restF s0 s' vs = s0 := by
  have hl : s'.length = s0.length := by rw [← wipeF_len (fs := s') (vs := vs), h, wipeF_len]
  apply List.ext_getElem?
  intro i
  by_cases hi : i ∈ vs
  · by_cases lt : i < s0.length
    · have key : ∀ (ws : List Nat), i ∈ ws → (restF s0 s' ws)[i]? = some (keepD s0[i]?) := by
        intro ws
        induction ws with
        | nil => intro h; cases h
        | cons w ws ih =>
          intro hw
          show ((restF s0 s' ws).set w (keepD s0[w]?))[i]? = _
          by_cases e : w = i
          · subst e; rw [List.getElem?_set_self (by rw [restF_len, hl]; exact lt)]
          · rw [List.getElem?_set_ne e]
            rcases List.mem_cons.mp hw with z | z
            · exact absurd z.symm e
            · exact ih z
      rw [key vs hi]
      have e0 : s0[i]? = some s0[i] := List.getElem?_eq_getElem lt
      rw [e0]
      congr 1
      cases e1 : s0[i] with
      | none => rfl
      | some sv =>
        obtain ⟨x, rfl⟩ := hv i hi sv (by rw [e0, e1])
        rfl
    · rw [List.getElem?_eq_none (by rw [restF_len, hl]; omega), List.getElem?_eq_none (by omega)]
  · rw [restF_out hi, ← wipeF_out (fs := s') hi, h, wipeF_out hi]
/-- [f(x) for x in xs] -/
theorem lc_map {fi : FI} {s s1 : FS} {xs : List D} (f : D → D) (hL : vs.any (isL s) = false) (hi : fi s = .ok (xs, none) s1) (hw : wipeF s1 vs = wipeF s vs) (hv : ∀ i ∈ vs, ∀ sv, s[i]? = some (some sv) → ∃ x, sv = .d x) (hl : xs.length ≤ most)
    (hx : ∀ x ∈ xs, ∃ s2, g (.d x) (wipeF s vs) = some s2 ∧ ∃ s3, fe s2 = .ok (.d (f x)) s3 ∧ wipeF s3 vs = wipeF s vs) : fLc fi g fYes fe vs s = .ok (.d (.lst (xs.map f))) s := by
  obtain ⟨s', e', h'⟩ := lcL_map (g := g) (fe := fe) (vs := vs) f (wipeF s vs) xs [] (by simpa using hl) hx s1 hw
  unfold fLc
  rw [hL, hi]
  show ((fLcL g fYes fe vs xs [] s1).noEx fun a fs2 => Rs.ok (FV.d (.lst a)) (restF s fs2 vs)) = _
  rw [e']
  show Rs.ok (FV.d (.lst ([] ++ xs.map f))) (restF s s' vs) = _
  rw [restF_of h' hv, List.nil_append]
end
end DL
end
section
set_option Elab.async false
set_option linter.all false
set_option autoImplicit false
set_option maxRecDepth 100000
set_option maxHeartbeats 4000000
namespace DL
open PySem PySem.Spec PyProof.Rows L2
theorem ib_int_dict : isiB "int" "dict" = false := by decide
theorem ib_int_list : isiB "int" "list" = false := by decide
theorem ib_int_tuple : isiB "int" "tuple" = false := by decide
theorem ib_int_int : isiB "int" "int" = true := by decide
theorem ib_int_bool : isiB "int" "bool" = false := by decide
theorem ib_int_str : isiB "int" "str" = false := by decide
theorem ib_str_dict : isiB "str" "dict" = false := by decide
theorem ib_str_list : isiB "str" "list" = false := by decide
theorem ib_str_tuple : isiB "str" "tuple" = false := by decide
theorem ib_str_int : isiB "str" "int" = false := by decide
theorem ib_str_bool : isiB "str" "bool" = false := by decide
theorem ib_str_str : isiB "str" "str" = true := by decide
theorem ib_list_dict : isiB "list" "dict" = false := by decide
theorem ib_list_list : isiB "list" "list" = true := by decide
theorem ib_list_tuple : isiB "list" "tuple" = false := by decide
theorem ib_list_int : isiB "list" "int" = false := by decide
theorem ib_list_bool : isiB "list" "bool" = false := by decide
theorem ib_list_str : isiB "list" "str" = false := by decide
theorem ib_tuple_dict : isiB "tuple" "dict" = false := by decide
theorem ib_tuple_list : isiB "tuple" "list" = false := by decide
theorem ib_tuple_tuple : isiB "tuple" "tuple" = true := by decide
theorem ib_tuple_int : isiB "tuple" "int" = false := by decide
theorem ib_tuple_bool : isiB "tuple" "bool" = false := by decide
theorem ib_tuple_str : isiB "tuple" "str" = false := by decide
theorem ib_NoneType_dict : isiB "NoneType" "dict" = false := by decide
theorem ib_NoneType_list : isiB "NoneType" "list" = false := by decide
theorem ib_NoneType_tuple : isiB "NoneType" "tuple" = false := by decide
theorem ib_NoneType_int : isiB "NoneType" "int" = false := by decide
theorem ib_NoneType_bool : isiB "NoneType" "bool" = false := by decide
theorem ib_NoneType_str : isiB "NoneType" "str" = false := by decide
theorem ib_bool_dict : isiB "bool" "dict" = false := by decide
theorem ib_bool_list : isiB "bool" "list" = false := by decide
theorem ib_bool_tuple : isiB "bool" "tuple" = false := by decide
theorem ib_bool_int : isiB "bool" "int" = true := by decide
theorem ib_bool_bool : isiB "bool" "bool" = true := by decide
theorem ib_bool_str : isiB "bool" "str" = false := by decide
theorem ib_dict_dict : isiB "dict" "dict" = true := by decide
theorem ib_dict_list : isiB "dict" "list" = false := by decide
theorem ib_dict_tuple : isiB "dict" "tuple" = false := by decide
theorem ib_dict_int : isiB "dict" "int" = false := by decide
theorem ib_dict_bool : isiB "dict" "bool" = false := by decide
theorem ib_dict_str : isiB "dict" "str" = false := by decide
theorem tn_dict : tyNames.contains "dict" = true := by decide
theorem tn_list : tyNames.contains "list" = true := by decide
theorem tn_tuple : tyNames.contains "tuple" = true := by decide
theorem tn_int : tyNames.contains "int" = true := by decide
theorem tn_bool : tyNames.contains "bool" = true := by decide
theorem tn_str : tyNames.contains "str" = true := by decide
end DL
end
section
set_option Elab.async false
set_option linter.all false
set_option autoImplicit false
set_option maxRecDepth 100000
set_option maxHeartbeats 4000000
namespace DL
open PySem PySem.Spec PyProof.Rows L2
section
variable {n f : Str} {ns : List Str} {d x : D} {ds : List D}
theorem q_lkp : lkp (n :: ns) (d :: ds) f = if f = n then some d else lkp ns ds f := rfl
theorem q_lkp_nil : lkp [] [] f = none := rfl
theorem q_putN_nil : putN [] f = [f] := rfl
theorem q_putN : putN (n :: ns) f = if n = f then n :: ns else n :: putN ns f := rfl
theorem q_putD_nil : putD [] ds f d = [d] := by cases ds <;> rfl
theorem q_putD : putD (n :: ns) (x :: ds) f d = if n = f then d :: ds else x :: putD ns ds f d := rfl
theorem isL_map {o : Option D} : kIsL (some (o.map Sv.d)) = false := by cases o <;> rfl
theorem q_str {a b : String} : (Str.ofString a = Str.ofString b) = (a = b) := by
  apply propext
  refine ⟨fun h => ?_, fun h => by rw [h]⟩
  have h1 : a.toList.map Char.toNat = b.toList.map Char.toNat := by
    rw [Str.ofString_eq_toList, Str.ofString_eq_toList] at h
    injection h with h
    simpa using h
  have h2 : a.toList = b.toList := by
    have inj : ∀ (l m : List Char), l.map Char.toNat = m.map Char.toNat → l = m := by
      intro l
      induction l with
      | nil => intro m h; cases m with
        | nil => rfl
        | cons _ _ => simp at h
      | cons c l ih =>
        intro m h
        cases m with
        | nil => simp at h
        | cons e m =>
          simp at h
          rw [Char.toNat_inj.mp h.1, ih m h.2]
    exact inj _ _ h1
  exact String.toList_inj.mp h2
end
end DL
end
section
set_option Elab.async false
set_option linter.all false
set_option autoImplicit false
set_option maxRecDepth 100000
set_option maxHeartbeats 4000000
namespace DL
open PySem PySem.Spec PyProof.Rows L2
section
variable {s : FS} {fe fo : FE} {ks ls : List Key} {ds es : List D} {x : Str} {i : Int} {z d : D} {v w : FV} {neg p q : Bool} {g : FG} {ft : FT} {fi : FI} {vs : List Nat} {xs : List D}
theorem c_dnew : fDNew s = .ok (.f (.dct [] [])) s := rfl
theorem vv_dget_s : gDGet (.dct ks ds) (.str x) = lookK ks ds (.inr x) := rfl
theorem vv_dget_i : gDGet (.dct ks ds) (.int i) = lookK ks ds (.inl i) := rfl
theorem vv_dget1_s : gDGet1 (.dct ks ds) (.str x) = some ((lookK ks ds (.inr x)).getD .non) := rfl
def kDG1 (fe : FE) (s : FS) (v : FV) : Option D → Rs FV
  | some (.dct _ _) => (fe s).bind fun w fs2 => op2 gDGet1 fs2 v w
  | _ => .bad
def kDG0 (fe : FE) : Rs FV → Rs FV := fun r => r.bind fun v s => kDG1 fe s v (rsv s v)
def kDG2 (v : FV) : Rs FV → Rs FV := fun r => r.bind fun w fs2 => op2 gDGet1 fs2 v w
theorem c_dg : fDG1 fo fe s = kDG0 fe (fo s) := by
  unfold fDG1 kDG0
  cases fo s with
  | bad => rfl
  | ex _ _ => rfl
  | ok v s1 =>
    show (match rsv s1 v with | some (.dct _ _) => _ | _ => _) = kDG1 fe s1 v (rsv s1 v)
    unfold kDG1
    cases rsv s1 v with
    | none => rfl
    | some x => cases x <;> rfl
theorem c_dg0 : kDG0 fe (.ok v s) = kDG1 fe s v (rsv s v) := rfl
theorem c_dg1 : kDG1 fe s v (some (.dct ks ds)) = kDG2 v (fe s) := rfl
theorem c_dg2 : kDG2 v (.ok w s) = op2 gDGet1 s v w := rfl
theorem vv_din : gDIn neg (.str x) (.dct ks ds) = some (.bl (cond neg (!(lookK ks ds (.inr x)).isSome) (lookK ks ds (.inr x)).isSome)) := rfl
theorem vv_isB : gIsB neg (.bl p) (.bl q) = some (.bl (cond neg (!decide (p = q)) (decide (p = q)))) := rfl
theorem vv_repT : gRepT (.tup xs) (.int i) = if (decide (xs ≠ []) && decide (2 ≤ i) && decide (i ≤ 1000) && decide (xs.length ≤ 1000)) = true then some (.tup (List.replicate i.toNat xs).flatten) else none := rfl
def kLenSc : Rs FV → Rs FV := fun r => r.bind fun v fs1 => match v with
  | .d (.lst xs) => .ok (.d (.int (distK (keysD xs) : Nat))) fs1
  | _ => .bad
theorem c_lenSc1 : kLenSc (.ok (.d (.lst xs)) s) = .ok (.d (.int (distK (keysD xs) : Nat))) s := rfl
def kShort : Rs (List D × Option (Nat × M)) → Rs (List D × Option (Nat × M))
  | .ok r fs1 => if r.1.length ≤ 1000 then .ok r fs1 else .bad
  | .ex x fs1 => .ex x fs1
  | .bad => .bad
theorem c_short : fShort fi s = kShort (fi s) := by unfold fShort kShort; cases fi s <;> rfl
theorem c_short1 {r : List D × Option (Nat × M)} : kShort (.ok r s) = if r.1.length ≤ 1000 then .ok r s else .bad := rfl
def kKey : Rs FV → Rs FV := fun r => r.bind fun v fs1 => match v with
  | .d x => if (keyD x).isSome = true then .ok (.d x) fs1 else .bad
  | _ => .bad
theorem c_key : fKey fe s = kKey (fe s) := rfl
theorem c_key_i : kKey (.ok (.d (.int i)) s) = .ok (.d (.int i)) s := rfl
theorem c_key_s : kKey (.ok (.d (.str x)) s) = .ok (.d (.str x)) s := rfl
theorem q_cond_t {α : Type} {a b : α} : cond true a b = a := rfl
theorem q_cond_f {α : Type} {a b : α} : cond false a b = b := rfl
theorem in_strs (neg : Bool) (x : Str) (ys : List Str) : gInB neg (.str x) (.tup (ys.map .str)) = some (.bl (neg ^^ ys.any fun y => decide (y = x))) := by
  rw [vv_in_t, if_pos (inOk_s fun y hy => by obtain ⟨z, _, rfl⟩ := List.mem_map.mp hy; rfl)]
  congr 3
  induction ys with
  | nil => rfl
  | cons y ys ih => rw [List.map_cons, dIn_cons, dEqv_str, ih, List.any_cons]
theorem vv_in_s1 {a : Str} : gInB false (.str x) (.tup [.str a]) = some (.bl (decide (a = x))) := by
  rw [show ([.str a] : List D) = [a].map D.str from rfl, in_strs]; simp
theorem vv_in_s2 {a b : Str} : gInB false (.str x) (.tup [.str a, .str b]) = some (.bl (decide (a = x) || decide (b = x))) := by
  rw [show ([.str a, .str b] : List D) = [a, b].map D.str from rfl, in_strs]; simp
theorem vv_in_s3 {a b c : Str} : gInB false (.str x) (.tup [.str a, .str b, .str c]) = some (.bl (decide (a = x) || (decide (b = x) || decide (c = x)))) := by
  rw [show ([.str a, .str b, .str c] : List D) = [a, b, c].map D.str from rfl, in_strs]; simp
end
end DL
end
section
set_option Elab.async false
set_option linter.all false
set_option autoImplicit false
set_option maxRecDepth 100000
set_option maxHeartbeats 4000000
namespace DL
open PySem PySem.Spec PyProof.Rows L2
section
variable {fe : FE} {fr : FA} {s : FS} {xs : List D} {vs : List FV}
def kStar1 (fr : FA) : Rs FV → Rs (List FV) := fun r => r.bind fun v fs1 => match v with
  | .d (.tup xs) => (fr fs1).bind fun vs fs2 => .ok (xs.map .d ++ vs) fs2
  | _ => .bad
def kStar2 (xs : List D) : Rs (List FV) → Rs (List FV) := fun r => r.bind fun vs fs2 => .ok (xs.map .d ++ vs) fs2
theorem c_star : fStar fe fr s = kStar1 fr (fe s) := rfl
theorem c_star1 : kStar1 fr (.ok (.d (.tup xs)) s) = kStar2 xs (fr s) := rfl
theorem c_star2 : kStar2 xs (.ok vs s) = .ok (xs.map .d ++ vs) s := rfl
variable {fi : FI} {g gj : FG} {ft ftj : FT} {fj : FE} {vs' us : List Nat}
def kLcM : Rs FV → Rs FV := fun r => r.bind fun v fs1 => match v with
  | .d (.lst xs) => .ok (.f (.lst xs)) fs1
  | _ => .bad
theorem c_lcM : fLcM fi g ft fe vs' s = kLcM (fLc fi g ft fe vs' s) := rfl
theorem c_lcM1 : kLcM (.ok (.d (.lst xs)) s) = .ok (.f (.lst xs)) s := rfl
end
end DL
end
section
set_option Elab.async false
set_option linter.all false
set_option autoImplicit false
set_option maxRecDepth 100000
set_option maxHeartbeats 4000000
namespace DL
open PySem PySem.Spec PyProof.Rows L2
section
variable {fe : FE} {fr : FA} {s s' : FS} {xs ys : List D} {k : Nat}
def kIZM : Rs (List FV) → Rs (List D × Option (Nat × M)) := fun r => r.bind fun vs fs1 => match vs with
  | [.d (.tup xs), .d (.lst ys)] => .ok (pairs xs ys, none) fs1
  | [.d (.tup xs), .s k] => match slotM fs1 k with
    | some (.lst ys) => .ok (pairs xs ys, some (k, .lst ys)) fs1
    | _ => .bad
  | _ => .bad
theorem isL_mapM {o : Option M} : kIsL (some (o.map (Sv.m false))) = false := by cases o <;> rfl
theorem c_izm : fIZM fr s = kIZM (fr s) := rfl
theorem c_izm_d : kIZM (.ok [.d (.tup xs), .d (.lst ys)] s) = .ok (pairs xs ys, none) s := rfl
def kIZM1 (xs : List D) (k : Nat) (s : FS) : Option M → Rs (List D × Option (Nat × M))
  | some (.lst ys) => .ok (pairs xs ys, some (k, .lst ys)) s
  | _ => .bad
theorem c_izm_s : kIZM (.ok [.d (.tup xs), .s k] s) = kIZM1 xs k s (slotM s k) := by
  show (match slotM s k with | some (.lst ys) => _ | _ => _) = _
  unfold kIZM1
  cases slotM s k with
  | none => rfl
  | some o => cases o <;> rfl
theorem c_izm_s1 : kIZM1 xs k s (some (.lst ys)) = .ok (pairs xs ys, some (k, .lst ys)) s := rfl
variable {g : FG} {vs : List Nat}
end
end DL
end
section
set_option Elab.async false
set_option linter.all false
set_option autoImplicit false
set_option maxRecDepth 100000
set_option maxHeartbeats 4000000
namespace DL
open PySem PySem.Spec PyProof.Rows L2
section
variable {fe fo : FE} {fr : FA} {ft : FT} {f : FSt} {s s' : FS} {k n : Nat} {cs : List Addr} {fn : Str} {g : Int → Int → Int} {C : Addr} {ns : List Str} {es : List D} {pr : Bool} {i j : Int} {z y acc : Str} {vs : List FV} {xs : List D} {ts : List FE}
def kFA5 (C : Addr) (fn : Str) (g : Int → Int → Int) (k : Nat) (i j : Int) (s : FS) : Option (Option Sv) → O
  | some (some (.m pr (.ins C' ns' es'))) => if C' = C ∧ ns'.length < 1000 then .nx (s.set k (some (.m pr (.ins C (putN ns' fn) (putD ns' es' fn (.int (g i j))))))) else .bad
  | _ => .bad
def kFA4 (C : Addr) (fn : Str) (g : Int → Int → Int) (k : Nat) (i : Int) : Rs FV → O := fun r => r.thn fun y s => match y with
  | .d (.int j) => kFA5 C fn g k i j s s[k]?
  | _ => .bad
def kFA3 (C : Addr) (fn : Str) (g : Int → Int → Int) (k : Nat) (fe : FE) (s : FS) : Option D → O
  | some (.int i) => kFA4 C fn g k i (fe s)
  | _ => .bad
def kFA2 (cs : List Addr) (fn : Str) (g : Int → Int → Int) (fe : FE) (k : Nat) (s : FS) : Option (Option Sv) → O
  | some (some (.m _ (.ins C ns es))) => if cs.contains C = true then kFA3 C fn g k fe s (lkp ns es fn) else .bad
  | _ => .bad
def kFA1 (cs : List Addr) (fn : Str) (g : Int → Int → Int) (fe : FE) : Rs FV → O := fun r => r.thn fun v s => match v with
  | .s k => kFA2 cs fn g fe k s s[k]?
  | _ => .bad
theorem c_faug : sFldAug cs fn g fo fe s = kFA1 cs fn g fe (fo s) := by
  unfold sFldAug kFA1
  congr 1
theorem c_faug1 : kFA1 cs fn g fe (.ok (.s k) s) = kFA2 cs fn g fe k s s[k]? := rfl
theorem c_faug2 : kFA2 cs fn g fe k s (some (some (.m pr (.ins C ns es)))) = if cs.contains C = true then kFA3 C fn g k fe s (lkp ns es fn) else .bad := rfl
theorem c_faug3 : kFA3 C fn g k fe s (some (.int i)) = kFA4 C fn g k i (fe s) := rfl
theorem c_faug4 : kFA4 C fn g k i (.ok (.d (.int j)) s) = kFA5 C fn g k i j s s[k]? := rfl
theorem c_faug5 : kFA5 C fn g k i j s (some (some (.m pr (.ins C ns es)))) = if ns.length < 1000 then .nx (s.set k (some (.m pr (.ins C (putN ns fn) (putD ns es fn (.int (g i j))))))) else .bad := by
  show (if C = C ∧ ns.length < 1000 then _ else _) = _
  by_cases h : ns.length < 1000
  · rw [if_pos ⟨rfl, h⟩, if_pos h]
  · rw [if_neg (fun q => h q.2), if_neg h]
abbrev GMA := Str → List D → Option D
def kMA3 (gm : GMA) (z : Str) (s : FS) : Option (List D) → Rs FV
  | some as => kRet s (gm z as)
  | none => .bad
def kMA2 (gm : GMA) (z : Str) : Rs (List FV) → Rs FV := fun r => r.bind fun vs s => kMA3 gm z s (rsvs s vs)
def kMA1 (gm : GMA) (fr : FA) : Rs FV → Rs FV := fun r => r.bind fun v s => match v with
  | .d (.str z) => kMA2 gm z (fr s)
  | _ => .bad
theorem c_mA {gm : GMA} : fMA gm fo fr s = kMA1 gm fr (fo s) := by
  unfold fMA kMA1
  cases fo s with
  | bad => rfl
  | ex _ _ => rfl
  | ok v s1 =>
    cases v with
    | s _ => rfl
    | f _ => rfl
    | d x =>
      cases x with
      | str z =>
        show (fr s1).bind _ = kMA2 gm z (fr s1)
        unfold kMA2
        cases fr s1 with
        | bad => rfl
        | ex _ _ => rfl
        | ok w s2 => show (match rsvs s2 w with | some y => _ | none => _) = kMA3 gm z s2 (rsvs s2 w); unfold kMA3 kRet; cases rsvs s2 w <;> rfl
      | _ => rfl
theorem c_mA1 {gm : GMA} : kMA1 gm fr (.ok (.d (.str z)) s) = kMA2 gm z (fr s) := rfl
theorem c_mA2 {gm : GMA} : kMA2 gm z (.ok vs s) = kMA3 gm z s (rsvs s vs) := rfl
theorem c_mA3 {gm : GMA} : kMA3 gm z s (some xs) = kRet s (gm z xs) := rfl
theorem vv_sw3 : gSw3 z [.str y, .int i] = some (.bl (Txt.startswith3 z y i)) := rfl
theorem vv_strI : gStrI [.int i] = if (decide (-1000000000 < i) && decide (i < 1000000000)) = true then some (.str (toString i)) else none := rfl
theorem vv_strS : gStrI [.str z] = some (.str z) := rfl
theorem vv_intS : gIntS [.str z] = if z.length ≤ 640 then (PySem.intText? z).map D.int else none := rfl
def kFmt : Rs FV → Rs FV := fun r => r.bind fun v fs1 => match v with
  | .d (.str y) => .ok (.d (.str y)) fs1
  | .d (.int i) => if (decide (-1000000000 < i) && decide (i < 1000000000)) = true then .ok (.d (.str (toString i))) fs1 else .bad
  | _ => .bad
theorem c_fmt : fFmt fe s = kFmt (fe s) := rfl
theorem c_fmt_s : kFmt (.ok (.d (.str y)) s) = .ok (.d (.str y)) s := rfl
theorem c_fmt_i : kFmt (.ok (.d (.int i)) s) = if (decide (-1000000000 < i) && decide (i < 1000000000)) = true then .ok (.d (.str (toString i))) s else .bad := rfl
def kJs (ts : List FE) (acc : Str) : Rs FV → Rs Str := fun r => r.bind fun v fs1 => match v with
  | .d (.str y) => if (acc ++ y).length ≤ most then fJs ts (acc ++ y) fs1 else .bad
  | _ => .bad
def kJ : Rs Str → Rs FV := fun r => r.bind fun out fs1 => .ok (.d (.str out)) fs1
theorem c_j : fJ ts s = kJ (fJs ts Str.empty s) := rfl
theorem c_j1 : kJ (.ok y s) = .ok (.d (.str y)) s := rfl
theorem c_js_nil : fJs [] acc s = .ok acc s := rfl
theorem c_js : fJs (fe :: ts) acc s = kJs ts acc (fe s) := rfl
theorem c_js1 : kJs ts acc (.ok (.d (.str y)) s) = if (acc ++ y).length ≤ most then fJs ts (acc ++ y) s else .bad := Eq.trans rfl rfl
end
end DL
end
section
set_option Elab.async false
set_option linter.all false
set_option autoImplicit false
set_option maxRecDepth 100000
set_option maxHeartbeats 4000000
namespace DL
open PySem PySem.Spec PyProof.Rows L2
section
variable {s s1 : FS} {fe fo ff fk fv : FE} {fr : FA} {ks : List Key} {ds xs ys ps : List D} {z d a b : D} {v w : FV} {g : FG} {ft : FT} {fi : FI} {vs : List Nat} {pr : Bool} {k i : Nat} {frs : List (FE × FE)}
def kPair2 (y : FV) : Rs FV → Rs FV := fun r => r.bind fun z fs2 => match y, z with
  | .d a, .d b => if (keyD a).isSome = true then .ok (.d (.tup [a, b])) fs2 else .bad
  | _, _ => .bad
def kPair (fv : FE) : Rs FV → Rs FV := fun r => r.bind fun y fs1 => kPair2 y (fv fs1)
theorem c_pair : fPair fk fv s = kPair fv (fk s) := rfl
theorem c_pair1 : kPair fv (.ok v s) = kPair2 v (fv s) := rfl
theorem c_pair2 : kPair2 (.d a) (.ok (.d b) s) = if (keyD a).isSome = true then .ok (.d (.tup [a, b])) s else .bad := rfl
/-- the keys of a dict that is walked -/
def kIK : Rs FV → Rs (List D × Option (Nat × M)) := fun r => r.bind fun v fs1 => match v with
  | .d (.dct ks _) => if ks.all keyOk = true then .ok (ks.map kD, none) fs1 else .bad
  | _ => .bad
theorem c_iK : fIK fe s = kIK (fe s) := rfl
theorem c_iK1 : kIK (.ok (.d (.dct ks ds)) s) = if ks.all keyOk = true then .ok (ks.map kD, none) s else .bad := rfl
/-- extend -/
def kExt3 (k : Nat) (ys : List D) (s : FS) : Option (Option Sv) → Rs FV
  | some (some (.m pr (.lst xs))) => if xs.length + ys.length < most then .ok (.d .non) (s.set k (some (.m pr (.lst (xs ++ ys))))) else .bad
  | _ => .bad
def kExt2 (v : FV) : Rs (List FV) → Rs FV := fun r => r.bind fun vs fs2 => match v, vs with
  | .s k, [.d (.lst ys)] => kExt3 k ys fs2 fs2[k]?
  | _, _ => .bad
def kExt (fr : FA) : Rs FV → Rs FV := fun r => r.bind fun v fs1 => if isLs fs1 v = true then kExt2 v (fr fs1) else .bad
theorem c_ext : fExt fo fr s = kExt fr (fo s) := by
  unfold fExt kExt
  cases fo s with
  | bad => rfl
  | ex _ _ => rfl
  | ok v s1 =>
    show (if isLs s1 v = true then _ else Rs.bad) = (if isLs s1 v = true then _ else Rs.bad)
    congr 1
theorem c_ext1 : kExt fr (.ok v s) = if isLs s v = true then kExt2 v (fr s) else .bad := rfl
theorem c_ext2 : kExt2 (.s k) (.ok [.d (.lst ys)] s) = kExt3 k ys s s[k]? := rfl
theorem c_ext3 : kExt3 k ys s (some (some (.m pr (.lst xs)))) = if xs.length + ys.length < most then .ok (.d .non) (s.set k (some (.m pr (.lst (xs ++ ys))))) else .bad := Eq.trans rfl rfl
/-- d.get(k, z) -/
def kDG33 (ks : List Key) (ds : List D) (y : FV) : Rs FV → Rs FV := fun r => r.bind fun z fs3 => match y, z with
  | .d a, .d b => match keyD a with
    | some k => .ok (.d ((lookK ks ds k).getD b)) fs3
    | none => .bad
  | _, _ => .bad
def kDG32 (ks : List Key) (ds : List D) (ff : FE) : Rs FV → Rs FV := fun r => r.bind fun y fs2 => kDG33 ks ds y (ff fs2)
def kDG31 (fe ff : FE) : Rs FV → Rs FV := fun r => r.bind fun v fs1 => match v with
  | .d (.dct ks ds) => kDG32 ks ds ff (fe fs1)
  | _ => .bad
theorem c_dg3 : fDG3 fo fe ff s = kDG31 fe ff (fo s) := rfl
theorem c_dg31 : kDG31 fe ff (.ok (.d (.dct ks ds)) s) = kDG32 ks ds ff (fe s) := rfl
theorem c_dg32 : kDG32 ks ds ff (.ok v s) = kDG33 ks ds v (ff s) := rfl
theorem c_dg33 {x : Str} : kDG33 ks ds (.d (.str x)) (.ok (.d b) s) = .ok (.d ((lookK ks ds (.inr x)).getD b)) s := rfl
/-- displays -/
def kDisp : Rs (List D) → Rs FV := fun r => r.bind fun ps fs1 => if ps.length ≤ 15 then .ok (.d (.dct (dctF ps ([], [])).1 (dctF ps ([], [])).2)) fs1 else .bad
theorem c_disp : fDisp frs s = kDisp (fPairs frs s) := rfl
theorem c_disp1 : kDisp (.ok ps s) = if ps.length ≤ 15 then .ok (.d (.dct (dctF ps ([], [])).1 (dctF ps ([], [])).2)) s else .bad := rfl
theorem c_prs0 : fPairs [] s = .ok [] s := rfl
end
end DL
end
section
set_option Elab.async false
set_option linter.all false
set_option autoImplicit false
set_option maxRecDepth 100000
set_option maxHeartbeats 4000000
namespace DL
open PySem PySem.Spec PyProof.Rows L2
section
variable {s s1 : FS} {fe : FE} {fr : FA} {C : Addr} {cs : List Addr} {nm f : Str} {x y z d vc vf : D} {v w : FV} {vs : List FV} {as as' : List Ar} {ns : List Str} {ds : List D} {mff mf : MF} {g body : FSt} {gg : FG} {xs : List D}
theorem c_raise1 : fRaise1 C nm f fe s = kRaise1 C nm f (fe s) := rfl
theorem c_raise1d : kRaise1 C nm f (.ok (.d x) s) = .ex (.exc C [f, "code"] [x, .str nm]) s := rfl
theorem c_raise0 : fRaise0 C nm s = .ex (.exc C ["code"] [.str nm]) s := rfl
theorem c_seq_ex : (O.ex x s).seq g = .ex x s := rfl
def kFinX (x : D) : Option (List Ar) → Rm
  | some as => .ex x as
  | none => .bad
theorem c_fin_ex : finF as (.ex x s) = kFinX x (backA s 0 as) := by
  show (match backA s 0 as with | some as' => Rm.ex x as' | none => .bad) = _
  unfold kFinX; cases backA s 0 as <;> rfl
theorem c_fin_ex1 : kFinX x (some as) = .ex x as := rfl
theorem c_cr2x : kCR2 s vs (.ex x as) = kCRx x (putBack s vs as) := rfl
theorem c_crx : kCRx x (some s) = .ex x s := rfl
theorem c_cf_x : kCF (.ex x s) = .ex x s := rfl
theorem c_loop_ex : loopO g (.ex x s) = .ex x s := rfl
theorem c_asg_x {g : FG} : kAsg g (.ex x s) = .ex x s := rfl
theorem c_rt_x : kRt (.ex x s) = .ex x s := rfl
theorem c_drop_x : kDrop (.ex x s) = .ex x s := rfl
theorem c_if_x : kIf g body (.ex x s) = .ex x s := rfl
def kXf1 (s : FS) : Option D → Rs FV
  | some d => .ok (.d d) s
  | none => .bad
def kXf (cs : List Addr) (f : Str) : Rs FV → Rs FV := fun r => r.bind fun v fs1 => kXf1 fs1 (xfG cs f (rsv fs1 v))
theorem c_xf : fXf cs f fe s = kXf cs f (fe s) := by
  unfold fXf kXf kXf1
  cases fe s with
  | bad => rfl
  | ex _ _ => rfl
  | ok v s1 =>
    show (match xfG cs f (rsv s1 v) with | some d => Rs.ok (FV.d d) s1 | none => .bad) = (match xfG cs f (rsv s1 v) with | some d => _ | none => _)
    rfl
theorem c_xf1 : kXf cs f (.ok v s) = kXf1 s (xfG cs f (rsv s v)) := rfl
theorem c_xf2 : kXf1 s (some d) = .ok (.d d) s := rfl
theorem c_xfG : xfG cs f (some (.exc C ns ds)) = if cs.contains C then lkp ns ds f else none := rfl
theorem c_try : fTry cs mff fe s = kTry cs mff (fe s) := rfl
theorem c_try_ok : kTry cs mff (.ok (.d x) s) = .ok (.d (.tup [.str "", x])) s := rfl
theorem c_try_ex : kTry cs mff (.ex x s) = kTry2 mff x s (xfG cs "code" (some x)) := rfl
theorem c_try2 : kTry2 mff x s (some vc) = kTry3 vc s (mff [.d x]) := rfl
theorem c_try3 : kTry3 vc s (.ok (.d vf) [.d y]) = .ok (.d (.tup [vc, vf])) s := rfl
end
end DL
end
section
set_option Elab.async false
set_option linter.all false
set_option maxRecDepth 100000
set_option maxHeartbeats 4000000
set_option autoImplicit false
namespace Mine
open PySem PySem.Spec PyProof.Rows L2 DL
@[reducible] def C_InvalidText : Addr := 46
@[reducible] def C_Missing : Addr := 58
@[reducible] def C_NothingLeft : Addr := 80
@[reducible] def C_PlanError : Addr := 24
def fb_is_number : FSt :=
    (sRet (fAndV (fCB (opn gIsi) (fCons (fVar 0) (fCons (fC (.ty "int")) fNil))) (fAndV (fNotV (fCB (opn gIsi) (fCons (fVar 0) (fCons (fC (.ty "bool")) fNil)))) (fChain (op2 gLeI) (op2 gLeI) (fVar 1) (fVar 0) (fVar 2)))))
def b_is_number : MF := defF 3 3 (fb_is_number)
def m_is_number : MF := b_is_number
def fb_is_byte (m_is_number : MF) : FSt :=
    (sRet (fCall m_is_number [] (fCons (fVar 0) (fCons (fC (.int 0)) (fCons (fC (.int 255)) fNil)))))
def b_is_byte (m_is_number : MF) : MF := defF 1 1 (fb_is_byte m_is_number)
def m_is_byte : MF := b_is_byte m_is_number
def fb_are_bytes (m_is_byte : MF) : FSt :=
    (sRet (fAndV (fCB (opn gIsi) (fCons (fVar 0) (fCons (fC (.ty "tuple")) fNil))) (fAndV (fOp (op2 gLeI) (fCB (opn gLen) (fCons (fVar 0) fNil)) (fVar 1)) (fCB (opn gAll) (fCons (fLc (fIA (fVar 0)) (gName 2) fYes (fCall m_is_byte [] (fCons (fVar 2) fNil)) [2]) fNil)))))
def b_are_bytes (m_is_byte : MF) : MF := defF 3 2 (fb_are_bytes m_is_byte)
def m_are_bytes : MF := b_are_bytes m_is_byte
def fb_is_event (m_is_number : MF) (m_is_byte : MF) (m_are_bytes : MF) : FSt :=
    (sSeq (sIf (fTest (fOp (op2 (gInB false)) (fVar 0) (fTup (fCons (fTup (fCons (fC (.str "item")) fNil)) (fCons (fTup (fCons (fC (.str "end")) fNil)) fNil)))))
      (sRet (fC (.bl true)))
      sNext)
    (sSeq (sIf (fOr (fNot (fTest (fCB (opn gIsi) (fCons (fVar 0) (fCons (fC (.ty "tuple")) fNil))))) (fTest (fOp (op2 gNe) (fCB (opn gLen) (fCons (fVar 0) fNil)) (fC (.int 2)))))
      (sRet (fC (.bl false)))
      sNext)
    (sSeq (sIf (fTest (fOp (op2 gEq) (fOp (op2 gIx) (fVar 0) (fC (.int 0))) (fC (.str "free"))))
      (sRet (fAndV (fCall m_are_bytes [] (fCons (fOp (op2 gIx) (fVar 0) (fC (.int 1))) (fCons (fC (.int 8)) fNil))) (fOp (op2 gGtI) (fCB (opn gLen) (fCons (fOp (op2 gIx) (fVar 0) (fC (.int 1))) fNil)) (fC (.int 0)))))
      sNext)
    (sSeq (sIf (fTest (fOp (op2 gEq) (fOp (op2 gIx) (fVar 0) (fC (.int 0))) (fC (.str "pick"))))
      (sRet (fCall m_is_byte [] (fCons (fOp (op2 gIx) (fVar 0) (fC (.int 1))) fNil)))
      sNext)
    (sRet (fAndV (fOp (op2 gEq) (fOp (op2 gIx) (fVar 0) (fC (.int 0))) (fC (.str "size"))) (fCall m_is_number [] (fCons (fOp (op2 gIx) (fVar 0) (fC (.int 1))) (fCons (fC (.int 0)) (fCons (fC (.int 9)) fNil))))))))))
def b_is_event (m_is_number : MF) (m_is_byte : MF) (m_are_bytes : MF) : MF := defF 1 1 (fb_is_event m_is_number m_is_byte m_are_bytes)
def m_is_event : MF := b_is_event m_is_number m_is_byte m_are_bytes
def fb_is_plain_number : FSt :=
    (sRet (fAndV (fChain (op2 gLeI) (op2 gLeI) (fC (.int 1)) (fCB (opn gLen) (fCons (fVar 0) fNil)) (fC (.int 3))) (fAndV (fCB (opn gAll) (fCons (fLc (fIA (fVar 0)) (gName 1) fYes (fOp (op2 (gInB false)) (fVar 1) (fC (.str "0123456789"))) [1]) fNil)) (fOrV (fOp (op2 gEq) (fVar 0) (fC (.str "0"))) (fOp (op2 gNe) (fOp (op2 gIx) (fVar 0) (fC (.int 0))) (fC (.str "0")))))))
def b_is_plain_number : MF := defF 2 1 (fb_is_plain_number)
def m_is_plain_number : MF := b_is_plain_number
def fb_read_event (m_is_event : MF) (m_is_plain_number : MF) : FSt :=
    (sSeq (sAsg (fIf (fTest (fCB (opn gIsi) (fCons (fVar 0) (fCons (fC (.ty "str")) fNil)))) (fMA gSplit (fVar 0) (fCons (fC (.str " ")) fNil)) (fLst (fCons (fC (.str "")) fNil))) (gName 1))
    (sSeq (sIf (fNot (fTest (fCB (opn gAll) (fCons (fLc (fIA (fSl gCut (fVar 1) (fPart (fC (.int 1))) fNoPart)) (gName 4) fYes (fCall m_is_plain_number [] (fCons (fVar 4) fNil)) [4]) fNil))))
      (fRaise1 C_InvalidText "InvalidText" "at" (fC (.int 0)))
      sNext)
    (sSeq (sAsg (fCB (opn gTuple) (fCons (fLc (fIA (fSl gCut (fVar 1) (fPart (fC (.int 1))) fNoPart)) (gName 4) fYes (fCB (opn gIntS) (fCons (fVar 4) fNil)) [4]) fNil)) (gName 2))
    (sSeq (sIf (fTest (fOp (op2 gEq) (fOp (op2 gIx) (fVar 1) (fC (.int 0))) (fC (.str "free"))))
      (sAsg (fTup (fCons (fC (.str "free")) (fCons (fVar 2) fNil))) (gName 3))
      (sIf (fTest (fOp (op2 (gInB false)) (fOp (op2 gIx) (fVar 1) (fC (.int 0))) (fTup (fCons (fC (.str "item")) (fCons (fC (.str "end")) fNil)))))
        (sAsg (fTup (fCons (fOp (op2 gIx) (fVar 1) (fC (.int 0))) (fStar (fVar 2) fNil))) (gName 3))
        (sAsg (fTup (fCons (fOp (op2 gIx) (fVar 1) (fC (.int 0))) (fCons (fIf (fTest (fOp (op2 gEq) (fCB (opn gLen) (fCons (fVar 2) fNil)) (fC (.int 1)))) (fOp (op2 gIx) (fVar 2) (fC (.int 0))) (fC .non)) fNil))) (gName 3))))
    (sSeq (sIf (fNot (fTest (fCall m_is_event [] (fCons (fVar 3) fNil))))
      (fRaise1 C_InvalidText "InvalidText" "at" (fC (.int 0)))
      sNext)
    (sRet (fVar 3)))))))
def b_read_event (m_is_event : MF) (m_is_plain_number : MF) : MF := defF 5 1 (fb_read_event m_is_event m_is_plain_number)
def m_read_event : MF := b_read_event m_is_event m_is_plain_number
def fb__law_same (m__law_same : MF) : FSt :=
    (sSeq (sIf (fTest (fCB (opn gIsi) (fCons (fVar 1) (fCons (fC (.ty "dict")) fNil))))
      sNever
      sNext)
    (sSeq (sIf (fTest (fCB (opn gIsi) (fCons (fVar 1) (fCons (fTup (fCons (fC (.ty "list")) (fCons (fC (.ty "tuple")) fNil))) fNil))))
      (sSeq (sIf (fOr (fTest (fOp (op2 gNe) (fCB (opn gIsi) (fCons (fVar 0) (fCons (fC (.ty "list")) fNil))) (fCB (opn gIsi) (fCons (fVar 1) (fCons (fC (.ty "list")) fNil))))) (fTest (fOp (op2 gNe) (fCB (opn gIsi) (fCons (fVar 0) (fCons (fC (.ty "tuple")) fNil))) (fCB (opn gIsi) (fCons (fVar 1) (fCons (fC (.ty "tuple")) fNil))))))
        (sRet (fC (.bl false)))
        sNext)
      (sRet (fAndV (fOp (op2 gEq) (fCB (opn gLen) (fCons (fVar 0) fNil)) (fCB (opn gLen) (fCons (fVar 1) fNil))) (fCB (opn gAll) (fCons (fLc (fIZ (fCons (fVar 0) (fCons (fVar 1) fNil))) (gTup 2 (fgCons (gName 2) (fgCons (gName 3) fgNil))) fYes (fCall m__law_same [] (fCons (fVar 2) (fCons (fVar 3) fNil))) [2, 3]) fNil)))))
      sNext)
    (sSeq (sIf (fOr (fTest (fOp (op2 gIsN) (fVar 1) (fC .non))) (fTest (fOp (op2 gIsN) (fVar 0) (fC .non))))
      (sRet (fAndV (fOp (op2 gIsN) (fVar 1) (fC .non)) (fOp (op2 gIsN) (fVar 0) (fC .non))))
      sNext)
    (sSeq (sIf (fOr (fTest (fOp (op2 gNe) (fCB (opn gIsi) (fCons (fVar 0) (fCons (fC (.ty "bool")) fNil))) (fCB (opn gIsi) (fCons (fVar 1) (fCons (fC (.ty "bool")) fNil))))) (fTest (fOp (op2 gNe) (fCB (opn gIsi) (fCons (fVar 0) (fCons (fC (.ty "int")) fNil))) (fCB (opn gIsi) (fCons (fVar 1) (fCons (fC (.ty "int")) fNil))))))
      (sRet (fC (.bl false)))
      sNext)
    (sRet (fAndV (fOp (op2 gEq) (fCB (opn gIsi) (fCons (fVar 0) (fCons (fC (.ty "str")) fNil))) (fCB (opn gIsi) (fCons (fVar 1) (fCons (fC (.ty "str")) fNil)))) (fOp (op2 gEq) (fVar 0) (fVar 1))))))))
def b__law_same (m__law_same : MF) : MF := defF 4 2 (fb__law_same m__law_same)
def r__law_same : Nat → MF
  | 0 => fun _ => .bad
  | n + 1 => b__law_same (r__law_same n)
def m__law_same : MF := r__law_same 6
def fb__law_field : FSt :=
    (sSeq (sIf (fTest (fOp (op2 (gInB false)) (fXf [C_InvalidText, C_NothingLeft] "code" (fVar 0)) (fTup (fCons (fC (.str "InvalidName")) (fCons (fC (.str "InvalidNumber")) (fCons (fC (.str "InvalidPlace")) (fCons (fC (.str "InvalidLimit")) fNil)))))))
      (sRet (fXf [C_InvalidText, C_NothingLeft] "given" (fVar 0)))
      sNext)
    (sSeq (sIf (fTest (fOp (op2 (gInB false)) (fXf [C_InvalidText, C_NothingLeft] "code" (fVar 0)) (fTup (fCons (fC (.str "InvalidShape")) (fCons (fC (.str "UnknownUse")) (fCons (fC (.str "NoFilling")) (fCons (fC (.str "Silent")) (fCons (fC (.str "TooLong")) (fCons (fC (.str "TooWide")) (fCons (fC (.str "Unreadable")) (fCons (fC (.str "DuplicateName")) (fCons (fC (.str "UnknownName")) fNil))))))))))))
      (sRet (fXf [C_InvalidText, C_NothingLeft] "name" (fVar 0)))
      sNext)
    (sSeq (sIf (fTest (fOp (op2 (gInB false)) (fXf [C_InvalidText, C_NothingLeft] "code" (fVar 0)) (fTup (fCons (fC (.str "InvalidText")) (fCons (fC (.str "InvalidEvent")) (fCons (fC (.str "InvalidBytes")) (fCons (fC (.str "InvalidCommand")) fNil)))))))
      (sRet (fXf [C_InvalidText, C_NothingLeft] "at" (fVar 0)))
      sNext)
    (sSeq (sIf (fTest (fOp (op2 gEq) (fXf [C_InvalidText, C_NothingLeft] "code" (fVar 0)) (fC (.str "TooMany"))))
      (sRet (fXf [C_InvalidText, C_NothingLeft] "most" (fVar 0)))
      sNext)
    (sSeq (sIf (fTest (fOp (op2 gEq) (fXf [C_InvalidText, C_NothingLeft] "code" (fVar 0)) (fC (.str "Full"))))
      (sRet (fXf [C_InvalidText, C_NothingLeft] "limit" (fVar 0)))
      sNext)
    (sRet (fIf (fTest (fOp (op2 gEq) (fXf [C_InvalidText, C_NothingLeft] "code" (fVar 0)) (fC (.str "InvalidPage")))) (fXf [C_InvalidText, C_NothingLeft] "line" (fVar 0)) (fC .non))))))))
def b__law_field : MF := defF 1 1 (fb__law_field)
def m__law_field : MF := b__law_field
def fb__law_pull : FSt :=
    (sSeq (sAsg (fOp (op2 gAdd) (fOp (op2 gIx) (fVar 0) (fC (.int 4))) (fC (.int 1))) (gSub gSetL (fVar 0) (fC (.int 4))))
    (sSeq (sIf (fAnd (fTest (fOp (op2 gEq) (fOp (op2 gIx) (fVar 0) (fC (.int 2))) (fC (.int 0)))) (fTest (fOp (op2 gLtI) (fOp (op2 gIx) (fVar 0) (fC (.int 1))) (fCB (opn gLen) (fCons (fOp (op2 gIx) (fVar 0) (fC (.int 0))) fNil)))))
      (sSeq (sAsg (fOp (op2 gIx) (fOp (op2 gIx) (fVar 0) (fC (.int 0))) (fOp (op2 gIx) (fVar 0) (fC (.int 1)))) (gName 2))
      (sSeq (sAsg (fOp (op2 gAdd) (fOp (op2 gIx) (fVar 0) (fC (.int 1))) (fC (.int 1))) (gSub gSetL (fVar 0) (fC (.int 1))))
      (sIf (fTest (fOp (op2 gGeI) (fVar 2) (fOp (op2 gPowI) (fC (.int 10)) (fC (.int 18)))))
        (sAsg (fVar 2) (gSub gSetL (fVar 0) (fC (.int 2))))
        (sAsg (fOp (op2 gModI) (fCB (opn gInt) (fCons (fOp (op2 gAdd) (fOp (op2 gAdd) (fOp (op2 gMulI) (fOp (op2 gIx) (fVar 0) (fC (.int 3))) (fC (.int 39041))) (fOp (op2 gMulI) (fOp (op2 gModI) (fCB (opn gInt) (fCons (fVar 2) fNil)) (fC (.int 2147483399))) (fC (.int 733)))) (fC (.int 41))) fNil)) (fC (.int 2147483477))) (gSub gSetL (fVar 0) (fC (.int 3)))))))
      sNext)
    (sSeq (sIf (fTest (fOp (op2 gGtI) (fOp (op2 gIx) (fVar 0) (fC (.int 2))) (fC (.int 0))))
      (sSeq (sAsg (fOp (op2 gModI) (fCB (opn gInt) (fCons (fOp (op2 gIx) (fVar 0) (fC (.int 2))) fNil)) (fVar 1)) (gName 3))
      (sSeq (sAsg (fOp (op2 gDivI) (fOp (op2 gIx) (fVar 0) (fC (.int 2))) (fVar 1)) (gSub gSetL (fVar 0) (fC (.int 2))))
      (sRet (fVar 3))))
      sNext)
    (sSeq (sAsg (fCB (opn gInt) (fCons (fOp (op2 gIx) (fVar 0) (fC (.int 3))) fNil)) (gName 4))
    (sSeq (sAsg (fOp (op2 gModI) (fCB (opn gInt) (fCons (fOp (op2 gAdd) (fOp (op2 gAdd) (fOp (op2 gAdd) (fOp (op2 gPowI) (fVar 4) (fC (.int 3))) (fOp (op2 gMulI) (fVar 4) (fC (.int 28019)))) (fOp (op2 gMulI) (fOp (op2 gIx) (fVar 0) (fC (.int 4))) (fC (.int 1299721)))) (fC (.int 60013))) fNil)) (fC (.int 2147483477))) (gSub gSetL (fVar 0) (fC (.int 3))))
    (sRet (fOp (op2 gModI) (fCB (opn gInt) (fCons (fOp (op2 gAdd) (fOp (op2 gDivI) (fOp (op2 gIx) (fVar 0) (fC (.int 3))) (fC (.int 83))) (fOp (op2 gMulI) (fOp (op2 gModI) (fCB (opn gInt) (fCons (fOp (op2 gIx) (fVar 0) (fC (.int 3))) fNil)) (fC (.int 7907))) (fC (.int 59)))) fNil)) (fVar 1))))))))
def b__law_pull : MF := defF 5 2 (fb__law_pull)
def m__law_pull : MF := b__law_pull
def fb__law_of (m__law_pull : MF) : FSt :=
    (sRet (fOp (op2 gIx) (fVar 1) (fCall m__law_pull [] (fCons (fVar 0) (fCons (fCB (opn gLen) (fCons (fVar 1) fNil)) fNil)))))
def b__law_of (m__law_pull : MF) : MF := defF 2 2 (fb__law_of m__law_pull)
def m__law_of : MF := b__law_of m__law_pull
def fb__law_number_so : FSt :=
    (sSeq (sIf (fOr (fNot (fTest (fChain (op2 gLeI) (op2 gLeI) (fC (.int 1)) (fCB (opn gLen) (fCons (fVar 0) fNil)) (fC (.int 3))))) (fNot (fTest (fCB (opn gAll) (fCons (fLc (fIA (fVar 0)) (gName 1) fYes (fOp (op2 (gInB false)) (fVar 1) (fC (.str "0123456789"))) [1]) fNil)))))
      (sRet (fC (.bl false)))
      sNext)
    (sRet (fOrV (fOp (op2 gEq) (fVar 0) (fC (.str "0"))) (fOp (op2 gNe) (fOp (op2 gIx) (fVar 0) (fC (.int 0))) (fC (.str "0"))))))
def b__law_number_so : MF := defF 2 1 (fb__law_number_so)
def m__law_number_so : MF := b__law_number_so
def fb__law_event_of (m__law_number_so : MF) : FSt :=
    (sSeq (sAsg (fMA gSplit (fVar 0) (fCons (fC (.str " ")) fNil)) (gName 1))
    (sSeq (sIf (fTest (fOp (op2 (gInB false)) (fVar 0) (fTup (fCons (fC (.str "item")) (fCons (fC (.str "end")) fNil)))))
      (sRet (fTup (fCons (fVar 0) fNil)))
      sNext)
    (sSeq (sIf (fNot (fTest (fCB (opn gAll) (fCons (fLc (fIA (fSl gCut (fVar 1) (fPart (fC (.int 1))) fNoPart)) (gName 5) fYes (fCall m__law_number_so [] (fCons (fVar 5) fNil)) [5]) fNil))))
      (sRet (fC .non))
      sNext)
    (sSeq (sAsg (fLc (fIA (fSl gCut (fVar 1) (fPart (fC (.int 1))) fNoPart)) (gName 5) fYes (fCB (opn gIntS) (fCons (fVar 5) fNil)) [5]) (gName 2))
    (sSeq (sIf (fTest (fOp (op2 gEq) (fOp (op2 gIx) (fVar 1) (fC (.int 0))) (fC (.str "free"))))
      (sSeq (sAsg (fAndV (fChain (op2 gLeI) (op2 gLeI) (fC (.int 1)) (fCB (opn gLen) (fCons (fVar 2) fNil)) (fC (.int 8))) (fCB (opn gAll) (fCons (fLc (fIA (fVar 2)) (gName 6) fYes (fOp (op2 gLtI) (fVar 6) (fC (.int 256))) [6]) fNil))) (gName 3))
      (sRet (fIf (fTest (fVar 3)) (fTup (fCons (fC (.str "free")) (fCons (fCB (opn gTuple) (fCons (fVar 2) fNil)) fNil))) (fC .non))))
      sNext)
    (sSeq (sAsg (fDisp [((fC (.str "pick")), (fC (.int 255))), ((fC (.str "size")), (fC (.int 9)))]) (gName 4))
    (sSeq (sIf (fOr (fTest (fOp (op2 (gDIn true)) (fOp (op2 gIx) (fVar 1) (fC (.int 0))) (fVar 4))) (fOr (fTest (fOp (op2 gNe) (fCB (opn gLen) (fCons (fVar 2) fNil)) (fC (.int 1)))) (fTest (fOp (op2 gGtI) (fOp (op2 gIx) (fVar 2) (fC (.int 0))) (fOp (op2 gDGet) (fVar 4) (fOp (op2 gIx) (fVar 1) (fC (.int 0))))))))
      (sRet (fC .non))
      sNext)
    (sRet (fTup (fCons (fOp (op2 gIx) (fVar 1) (fC (.int 0))) (fCons (fOp (op2 gIx) (fVar 2) (fC (.int 0))) fNil)))))))))))
def b__law_event_of (m__law_number_so : MF) : MF := defF 7 1 (fb__law_event_of m__law_number_so)
def m__law_event_of : MF := b__law_event_of m__law_number_so
def fb_event_text : FSt :=
    (sSeq (sIf (fTest (fOp (op2 gEq) (fOp (op2 gIx) (fVar 0) (fC (.int 0))) (fC (.str "free"))))
      (sRet (fJ [(fC (.str "free ")), (fFmt (fM1 gJoin (fC (.str " ")) (fLc (fIA (fOp (op2 gIx) (fVar 0) (fC (.int 1)))) (gName 1) fYes (fCB (opn gStrI) (fCons (fVar 1) fNil)) [1])))]))
      sNext)
    (sRet (fIf (fTest (fOp (op2 gEq) (fCB (opn gLen) (fCons (fVar 0) fNil)) (fC (.int 1)))) (fOp (op2 gIx) (fVar 0) (fC (.int 0))) (fJ [(fFmt (fOp (op2 gIx) (fVar 0) (fC (.int 0)))), (fC (.str " ")), (fFmt (fOp (op2 gIx) (fVar 0) (fC (.int 1))))]))))
def b_event_text : MF := defF 2 1 (fb_event_text)
def m_event_text : MF := b_event_text
def fb__law_event_text : FSt :=
    (sSeq (sIf (fTest (fOp (op2 gEq) (fOp (op2 gIx) (fVar 0) (fC (.int 0))) (fC (.str "free"))))
      (sRet (fM1 gJoin (fC (.str " ")) (fOp (op2 gAdd) (fLst (fCons (fC (.str "free")) fNil)) (fLc (fIA (fOp (op2 gIx) (fVar 0) (fC (.int 1)))) (gName 1) fYes (fCB (opn gStrI) (fCons (fVar 1) fNil)) [1]))))
      sNext)
    (sRet (fM1 gJoin (fC (.str " ")) (fLc (fIA (fVar 0)) (gName 2) fYes (fCB (opn gStrI) (fCons (fVar 2) fNil)) [2]))))
def b__law_event_text : MF := defF 3 1 (fb__law_event_text)
def m__law_event_text : MF := b__law_event_text
def fb__law_bag : FSt :=
    (sSeq (sAsg (fC (.int 10048)) (gName 1))
    (sSeq (sFor (fIA (fSl gCut (fVar 0) fNoPart (fPart (fC (.int 63))))) (gName 2)
      (sAsg (fOp (op2 gModI) (fCB (opn gInt) (fCons (fOp (op2 gAdd) (fOp (op2 gAdd) (fOp (op2 gMulI) (fVar 1) (fC (.int 46183))) (fOp (op2 gModI) (fCB (opn gInt) (fCons (fVar 2) fNil)) (fC (.int 2147483399)))) (fC (.int 29))) fNil)) (fC (.int 2147483489))) (gName 1)))
    (sRet (fLstM (fCons (fCB (opn gList) (fCons (fSl gCut (fVar 0) fNoPart (fPart (fC (.int 63)))) fNil)) (fCons (fC (.int 0)) (fCons (fC (.int 0)) (fCons (fVar 1) (fCons (fC (.int 0)) fNil)))))))))
def b__law_bag : MF := defF 3 1 (fb__law_bag)
def m__law_bag : MF := b__law_bag
def fb_law (m_read_event : MF) (m__law_same : MF) (m__law_field : MF) (m__law_of : MF) (m__law_event_of : MF) (m__law_pull : MF) (m_event_text : MF) (m__law_event_text : MF) (m__law_bag : MF) : FSt :=
    (sSeq (sAsg (fCall m__law_bag [] (fCons (fVar 0) fNil)) (gName 1))
    (sSeq (sFor (fIR1 (fCons (fC (.int 7)) fNil)) (gName 2)
      (sSeq (sAsg (fTup (fCons (fC (.str "free")) (fCons (fCB (opn gTuple) (fCons (fLc (fIR1 (fCons (fOp (op2 gAdd) (fC (.int 1)) (fCall m__law_pull [] (fCons (fVar 1) (fCons (fC (.int 8)) fNil)))) fNil)) (gName 12) fYes (fCall m__law_pull [] (fCons (fVar 1) (fCons (fC (.int 256)) fNil))) [12]) fNil)) fNil))) (gName 3))
      (sSeq (sAsg (fCall m__law_of [] (fCons (fVar 1) (fCons (fLst (fCons (fVar 3) (fCons (fVar 3) (fCons (fTup (fCons (fC (.str "pick")) (fCons (fCall m__law_pull [] (fCons (fVar 1) (fCons (fC (.int 256)) fNil))) fNil))) (fCons (fTup (fCons (fC (.str "size")) (fCons (fCall m__law_pull [] (fCons (fVar 1) (fCons (fC (.int 10)) fNil))) fNil))) (fCons (fTup (fCons (fC (.str "item")) fNil)) (fCons (fTup (fCons (fC (.str "end")) fNil)) fNil))))))) fNil))) (gName 4))
      (sSeq (sAsg (fCall m__law_event_text [] (fCons (fVar 4) fNil)) (gName 5))
      (sSeq (sIf (fNot (fTest (fCall m__law_same [] (fCons (fLst (fCons (fCallK m_event_text 0 1 [0] fNil (fCons (fVar 4) fNil)) (fCons (fCall m_read_event [] (fCons (fVar 5) fNil)) fNil))) (fCons (fLst (fCons (fVar 5) (fCons (fVar 4) fNil))) fNil)))))
        (sRet (fC (.bl false)))
        sNext)
      (sSeq (sPar [6, 7] (fCons (fCall m__law_pull [] (fCons (fVar 1) (fCons (fOp (op2 gAdd) (fCB (opn gLen) (fCons (fVar 5) fNil)) (fC (.int 1))) fNil))) (fCons (fCall m__law_of [] (fCons (fVar 1) (fCons (fLst (fCons (fC (.str " ")) (fCons (fC (.str "0")) (fCons (fC (.str "1")) (fCons (fC (.str "9")) (fCons (fC (.str "a")) (fCons (fC (.str "-")) (fCons (fC (.str "\n")) fNil)))))))) fNil))) fNil)))
      (sSeq (sAsg (fCall m__law_of [] (fCons (fVar 1) (fCons (fLst (fCons (fOp (op2 gAdd) (fOp (op2 gAdd) (fSl gCut (fVar 5) fNoPart (fPart (fVar 6))) (fVar 7)) (fSl gCut (fVar 5) (fPart (fVar 6)) fNoPart)) (fCons (fOp (op2 gAdd) (fSl gCut (fVar 5) fNoPart (fPart (fVar 6))) (fSl gCut (fVar 5) (fPart (fOp (op2 gAdd) (fVar 6) (fC (.int 1)))) fNoPart)) (fCons (fOp (op2 gAdd) (fOp (op2 gAdd) (fSl gCut (fVar 5) fNoPart (fPart (fVar 6))) (fVar 7)) (fSl gCut (fVar 5) (fPart (fOp (op2 gAdd) (fVar 6) (fC (.int 1)))) fNoPart)) fNil)))) fNil))) (gName 8))
      (sSeq (sAsg (fCall m__law_event_of [] (fCons (fVar 8) fNil)) (gName 9))
      (sSeq (sAsg (fTry [C_InvalidText, C_NothingLeft] m__law_field (fCallK m_read_event 0 1 [0] fNil (fCons (fVar 8) fNil))) (gName 10))
      (sSeq (sIf (fNot (fTest (fCall m__law_same [] (fCons (fVar 10) (fCons (fIf (fTest (fOp (op2 gNotN) (fVar 9) (fC .non))) (fTup (fCons (fC (.str "")) (fCons (fVar 9) fNil))) (fTup (fCons (fC (.str "InvalidText")) (fCons (fC (.int 0)) fNil)))) fNil)))))
        (sRet (fC (.bl false)))
        sNext)
      (sSeq (sAsg (fCall m__law_of [] (fCons (fVar 1) (fCons (fLst (fCons (fC .non) (fCons (fC (.int 3)) (fCons (fC (.str "")) (fCons (fC (.str "item 1")) (fCons (fC (.str "free")) (fCons (fC (.str "free 256")) (fCons (fC (.str "pick")) (fCons (fC (.str "pick 1 2")) (fCons (fC (.str "size 10")) (fCons (fC (.str "free 01")) (fCons (fC (.str "Item")) (fCons (fC (.str "free  1")) (fCons (fTup (fCons (fC (.str "item")) fNil)) (fCons (fC (.bl true)) fNil))))))))))))))) fNil))) (gName 11))
      (sIf (fNot (fTest (fCall m__law_same [] (fCons (fTry [C_InvalidText, C_NothingLeft] m__law_field (fCall m_read_event [] (fCons (fVar 11) fNil))) (fCons (fTup (fCons (fC (.str "InvalidText")) (fCons (fC (.int 0)) fNil))) fNil)))))
        (sRet (fC (.bl false)))
        sNext))))))))))))
    (sRet (fOp (op2 gEq) (fCall m_read_event [] (fCons (fC (.str "free 0 255")) fNil)) (fTup (fCons (fC (.str "free")) (fCons (fTup (fCons (fC (.int 0)) (fCons (fC (.int 255)) fNil))) fNil)))))))
def b_law (m_read_event : MF) (m__law_same : MF) (m__law_field : MF) (m__law_of : MF) (m__law_event_of : MF) (m__law_pull : MF) (m_event_text : MF) (m__law_event_text : MF) (m__law_bag : MF) : MF := defF 13 1 (fb_law m_read_event m__law_same m__law_field m__law_of m__law_event_of m__law_pull m_event_text m__law_event_text m__law_bag)
def m_law : MF := b_law m_read_event m__law_same m__law_field m__law_of m__law_event_of m__law_pull m_event_text m__law_event_text m__law_bag
end Mine
end
section
set_option Elab.async false
set_option linter.all false
set_option autoImplicit false
set_option maxHeartbeats 4000000
set_option maxRecDepth 100000
namespace Mine
open PySem PySem.Spec PyProof.Rows L2 DL
local macro_rules | `(tactic| walk_at "F") => `(tactic| simp -implicitDefEqProofs only [c_pair, c_pair1, c_pair2, c_iK, c_iK1, c_ext, c_ext1, c_ext2, c_ext3, c_dg3, c_dg31, c_dg32, c_dg33, c_disp, c_disp1, c_prs0, c_raise1, c_raise1d, c_raise0, c_seq_ex, c_fin_ex, c_fin_ex1, c_cr2x, c_crx, c_cf_x, c_loop_ex, c_asg_x, c_rt_x, c_drop_x, c_if_x, c_xf, c_xf1, c_xf2, c_xfG, c_try, c_try_ok, c_try_ex, c_try2, c_try3, Int.cast_ofNat_Int, Int.natCast_one, Int.natCast_zero, vv_in_s1, vv_in_s2, vv_in_s3, c_dnew, vv_dget_s, vv_dget_i, vv_dget1_s, c_dg, c_dg0, c_dg1, c_dg2, vv_isB, vv_repT, c_star, c_star1, c_star2, c_lcM, c_lcM1, c_lenSc1, c_short, c_short1, c_key, c_key_i, c_key_s, q_cond_t, q_cond_f, c_var, c_var_d, c_var_m, c_var_l, c_c, c_op, c_op1, c_op2, c_ret, c_ret_n, c_o2, c_o2s, c_rsv_d, c_rsv_f, c_rsv_s, c_slot, c_slot_m, c_slot_l, c_slot_d, c_mD_l, c_mD_i, c_mD_d, c_test, c_test_b, c_and, c_and_b, c_or, c_or_b, c_not, c_not_b, c_yes, c_andV, c_andV_b, c_orV, c_orV_b, c_notV, c_notV_b, c_ife, c_ife_b, c_ch, c_ch1, c_ch2, c_ch3, c_ch4, c_nil, c_cons, c_cons1, c_cons2, c_tup, c_lst, c_lstM, c_tup1, c_lst1, c_lstM1, c_tups, c_lsts, c_lstMs, c_all_nil, c_all_d, c_mc, c_noPart, c_part, c_part_i, c_sl, c_sl1_d, c_sl1_s, c_sl2, c_sl3, c_sl4, c_cb, c_cb1, c_opn, c_opns, c_retM, c_opm, c_opms, c_rsvs_nil, c_rsvs, c_rsvs1, c_un, c_un1, c_un2, c_m1, c_m11, c_m12, c_m13, c_fld, c_fld1, c_fld2, c_cf, c_cf_d, c_cf_f, c_cr, c_cr1, c_cr2, c_cr3, c_nox, c_nox_ok, c_ars_nil, c_ars, c_ars1, c_ar_d, c_ar_f, c_ar_s, c_ar_m, c_so_nil, c_so_d, c_so_f, c_so_s, c_nd_nil, c_nd, c_pb_nil, c_pb_d, c_pb_f, c_pb_s, c_pb_m, c_call, c_call1, c_stat, c_callK, c_callK1, c_callK2, c_isF_d, c_isF_s, c_isF_f, c_isS_d, c_isS_s, c_isS_f, c_meth, c_meth1, c_meth2, c_isObj, c_methK, c_methK1, c_methK2, c_methK3, c_mk, c_mk1, c_mk2, c_mkM, c_mkM1, c_mkM2, c_own, c_isOb, c_app, c_app1, c_app2, c_app3, c_isLs, c_isLs1, c_frz, c_frz_d, c_frz_f, c_frz_s, c_frz1, c_seq, c_seq_nx, c_seq_rt, c_seq_bad, c_seq_bk, c_seq_ct, c_next, c_brk, c_cnt, c_never, c_if, c_if_b, c_drop, c_drop1, c_rt, c_rt1, c_rtN, c_nx, c_asg, c_asg1, c_par, c_par1, c_store_nil, c_store, c_store1, c_name_d, c_name_f, c_name_s, c_move, c_isL, c_isL_d, c_isL_m, c_isL_l, c_isL_n, c_isL_nn, c_gtup, c_fg_nil, c_fg, c_fg1, c_sub, c_sub1, c_sub2, c_sub3, c_sub4, c_ft, c_ft1, c_ft2, c_aug, c_aug1, c_aug2, c_aug3, c_ia, c_ia_l, c_ia_t, c_ia_s, c_ir1, c_ir1_i, c_ir2, c_ir2_i, c_iz, c_iz_l, c_iz_s, c_iz_s1, c_izm, c_faug, c_faug1, c_faug2, c_faug3, c_faug4, c_faug5, c_mA, c_mA1, c_mA2, c_mA3, vv_sw3, vv_strS, c_fmt, c_fmt_s, c_fmt_i, c_j, c_j1, c_js_nil, c_js, c_js1, vv_strI, c_izm_d, c_izm_s, c_izm_s1, c_iz_t, c_ie, c_ie_l, c_for, c_for_n, c_for_k, c_forL_nil, c_forL, c_turn, c_loop_nx, c_loop_ct, c_loop_bk, c_loop_rt, c_def, c_start, c_st_d, c_st_m, c_fin_rt, c_fin_nx, c_fin1, c_retV_d, c_retV_f, c_retV_s, c_rv, c_back_nil, c_back_d, c_back_m, c_bd, c_bm, vv_add_i, vv_add_s, vv_add_t, vv_add_l, vv_addI, vv_sub, vv_mul_r, vv_mul_l, vv_div_r, vv_mod_r, vv_pow_r, Int.reduceLT, Int.reduceLE, Int.reduceNeg, Int.reduceToNat, Int.reducePow, Int.reduceAdd, Int.reduceSub, Int.reduceMul, Int.reduceDiv, Int.reduceMod, Int.reduceEq, vv_lt, vv_le, vv_gt, vv_ge, vv_neg, vv_ix_l, vv_ix_t, vv_ix_s, vv_sg, vv_cut_l, vv_cut_t, vv_cut_k, vv_cut_s, vv_rev, vv_isN, vv_notN, vv_nn_obj, vv_len_l, vv_len_t, vv_len_s, vv_int_i, vv_int_b, vv_list_l, vv_list_t, vv_listM_l, vv_listM_t, vv_tuple_l, vv_tuple_t, vv_abs, vv_max, vv_min, vv_gcd, vv_all, vv_any, vv_sum, vv_maxL, vv_minL, vv_sortI, vv_rep, vv_setL, vv_setL1, vv_isi, vv_is, vv_isiT, vv_isT, vv_tys2, vv_tys1, vv_ty_non, vv_ty_bl, vv_ty_int, vv_ty_str, vv_ty_lst, vv_ty_tup, vv_ty_dct, vv_eq_i, vv_ne_i, vv_eq_s, vv_ne_s, vv_eq_b, vv_ne_b, vv_eq_ni, vv_eq_in, vv_ne_ni, vv_ne_in, vv_eq_nn, vv_eq_ns, vv_eq_sn, vv_eq_is, vv_eq_si, ib_int_dict, ib_int_list, ib_int_tuple, ib_int_int, ib_int_bool, ib_int_str, ib_str_dict, ib_str_list, ib_str_tuple, ib_str_int, ib_str_bool, ib_str_str, ib_list_dict, ib_list_list, ib_list_tuple, ib_list_int, ib_list_bool, ib_list_str, ib_tuple_dict, ib_tuple_list, ib_tuple_tuple, ib_tuple_int, ib_tuple_bool, ib_tuple_str, ib_NoneType_dict, ib_NoneType_list, ib_NoneType_tuple, ib_NoneType_int, ib_NoneType_bool, ib_NoneType_str, ib_bool_dict, ib_bool_list, ib_bool_tuple, ib_bool_int, ib_bool_bool, ib_bool_str, ib_dict_dict, ib_dict_list, ib_dict_tuple, ib_dict_int, ib_dict_bool, ib_dict_str, tn_dict, tn_list, tn_tuple, tn_int, tn_bool, tn_str, cT, isL_map, isL_mapM, q_lkp, q_lkp_nil, q_putN_nil, q_putN, q_putD_nil, q_putD, q_str, String.reduceEq, List.getElem?_cons_zero, List.getElem?_cons_succ, List.set_cons_zero, List.set_cons_succ, List.length_cons, List.length_nil, List.map_cons, List.map_nil, List.cons_append, List.nil_append, List.append_nil, List.replicate_succ, List.replicate_zero, Nat.reduceAdd, Nat.reduceSub, Nat.reduceLT, Nat.reduceLeDiff, Nat.reduceEqDiff, if_true, ite_true, if_false, ite_false, Bool.false_eq_true, Bool.not_true, Bool.not_false, Bool.and_true, Bool.true_and, Bool.false_and, Bool.and_false, Bool.or_true, Bool.or_false, Bool.true_or, Bool.false_or, decide_true, decide_false, Option.map_some, Option.map_none, most, reduceCtorEq, and_true, true_and, and_false, false_and, and_self, List.any_cons, List.any_nil, List.all_cons, List.all_nil, List.contains_cons, List.contains_nil, List.filterMap_cons, List.filterMap_nil, pick, isNonD_non, isNonD_bl, isNonD_int, isNonD_str, isNonD_lst, isNonD_tup, beq_self_eq_true, Option.isNone_none, Option.isNone_some, Nat.zero_add, atI_0, atI_1, atI_2, atI_3, atI_4, atI_5, atI_6, atI_7, atI_8, atI_9, atI_neg1, ixN_0, ixN_1, ixN_2, ixN_3, ixN_4, ixN_5, ixN_6, ixN_7])
abbrev strL (cs : List Nat) : Str := ⟨cs.toArray⟩
theorem strL_app (a b : List Nat) : strL a ++ strL b = strL (a ++ b) := by
  show Str.append _ _ = _
  unfold Str.append
  simp
theorem strL_len (a : List Nat) : (strL a).length = a.length := by simp [Str.length]
theorem strL_inj {a b : List Nat} (h : strL a = strL b) : a = b := by
  have := congrArg (fun s : Str => s.cps.toList) h
  simpa using this
theorem strL_of (x : Str) : x = strL x.cps.toList := by simp [strL]
theorem cutD_from {xs : List D} {n : Nat} (h : n ≤ xs.length) : DL.cutD xs (some (n : Int)) none = xs.drop n := by
  unfold DL.cutD
  rw [HT.sIx_nat, Nat.min_eq_left h]
  show List.take (xs.length - n) (xs.drop n) = _
  rw [List.take_of_length_le (by rw [List.length_drop]; exact Nat.le_refl _)]
theorem cut1 {a : D} {xs : List D} : DL.cutD (a :: xs) (some 1) none = xs := by
  have := cutD_from (xs := a :: xs) (n := 1) (by simp)
  exact this
structure Bag where
  cs : List Int
  i : Int
  r : Int
  m : Int
  n : Int
abbrev Bag.M (b : Bag) : M := .lst [.lst (b.cs.map D.int), .int b.i, .int b.r, .int b.m, .int b.n]
structure Bag.Ok (b : Bag) : Prop where
  len : b.cs.length ≤ 63
  i0 : 0 ≤ b.i
  r0 : 0 ≤ b.r
  m0 : 0 ≤ b.m
  m1 : b.m < 2147483489
theorem cDiv_of {i j : Int} (h1 : 0 < j) (h2 : j.natAbs.log2 < 9000) : cDiv i j = true := by
  unfold cDiv; simp [h1, h2]
theorem atI_nat {α : Type} {xs : List α} {i : Int} (h0 : 0 ≤ i) (h1 : i < xs.length) : ∃ x, L2.atI xs i = some x ∧ x ∈ xs := by
  obtain ⟨n, rfl⟩ := Int.eq_ofNat_of_zero_le h0
  have hn : n < xs.length := by omega
  refine ⟨xs[n], ?_, List.getElem_mem hn⟩
  have : ixN xs.length (n : Int) = some n := by simp [ixN, hn]
  simp [L2.atI, this, hn]
/-- a number was drawn -/
def Pulled (n : Int) (x : Ar) (r : Rm) : Prop := ∃ (k : Int) (b : Bag), r = .ok (.d (.int k)) [.m b.M, x] ∧ 0 ≤ k ∧ k < n ∧ b.Ok
theorem seq_by {f g : FSt} {s : FS} (P : O → Prop) (I : FS → Prop) (h1 : ∃ s', f s = .nx s' ∧ I s') (h2 : ∀ s', I s' → P (g s')) : P (sSeq f g s) := by
  obtain ⟨s', e, h⟩ := h1
  rw [c_seq, e]; exact h2 s' h
theorem pull_ok (b : Bag) (hb : b.Ok) (n : Int) (h0 : 0 < n) (h9 : n.natAbs.log2 < 9000) : Pulled n (.d (.int n)) (m__law_pull [.m b.M, .d (.int n)]) := by
  obtain ⟨cs, i, r, m, k⟩ := b
  obtain ⟨c1, c2, c3, c4, c5⟩ := hb
  dsimp only at c1 c2 c3 c4 c5
  have pw : ((10 : Int) ^ (18 : Int).toNat) = 1000000000000000000 := by decide
  show Pulled n _ (finF [.m (.lst [.lst (cs.map D.int), .int i, .int r, .int m, .int k]), .d (.int n)] (fb__law_pull [some (.m true (.lst [.lst (cs.map D.int), .int i, .int r, .int m, .int k])), some (.d (.int n)), none, none, none]))
  generalize hA : ([.m (.lst [.lst (cs.map D.int), .int i, .int r, .int m, .int k]), .d (.int n)] : List Ar) = A0
  have hback : ∀ (o : M) (v w u : Option Sv), backA [some (.m true o), some (.d (.int n)), v, w, u] 0 A0 = some [.m o, .d (.int n)] := fun o v w u => by
    rw [← hA]; walk_at "F"
  unfold fb__law_pull
  refine seq_by (fun o => Pulled n _ (finF A0 o)) (fun s => s = [some (.m true (.lst [.lst (cs.map D.int), .int i, .int r, .int m, .int (k + 1)])), some (.d (.int n)), none, none, none]) ⟨_, by walk_at "F", rfl⟩ ?_
  rintro s rfl
  refine seq_by (fun o => Pulled n _ (finF A0 o)) (fun s => ∃ (i r m : Int) (v : Option Sv), 0 ≤ i ∧ 0 ≤ r ∧ 0 ≤ m ∧ m < 2147483489 ∧ s = [some (.m true (.lst [.lst (cs.map D.int), .int i, .int r, .int m, .int (k + 1)])), some (.d (.int n)), v, none, none]) ?_ ?_
  · walk_at "F"
    by_cases hr : r = 0
    · simp only [hr, decide_true]
      walk_at "F"
      by_cases hi : i < (cs.map D.int).length
      · simp only [hi, decide_true]
        walk_at "F"
        obtain ⟨x, hx, hm⟩ := atI_nat (xs := cs.map D.int) c2 hi
        obtain ⟨c, -, rfl⟩ := List.mem_map.mp hm
        rw [hx]
        walk_at "F"
        by_cases hc : 1000000000000000000 ≤ c
        · simp only [hc, decide_true]
          walk_at "F"
          exact ⟨_, rfl, i + 1, c, m, _, by omega, by omega, c4, c5, rfl⟩
        · simp only [hc, decide_false]
          walk_at "F"
          exact ⟨_, rfl, i + 1, 0, _, _, by omega, by omega, Int.emod_nonneg _ (by decide), Int.lt_trans (Int.emod_lt_of_pos _ (by decide)) (by decide), rfl⟩
      · simp only [hi, decide_false]
        walk_at "F"
        exact ⟨_, rfl, i, 0, m, _, c2, by omega, c4, c5, rfl⟩
    · simp only [hr, decide_false]
      walk_at "F"
      exact ⟨_, rfl, i, r, m, _, c2, c3, c4, c5, rfl⟩
  rintro s ⟨i, r, m, v, c2, c3, c4, c5, rfl⟩
  walk_at "F"
  by_cases hr : 0 < r
  · simp only [hr, decide_true]
    walk_at "F"
    rw [vv_mod_r h0]
    walk_at "F"
    rw [vv_div, if_pos (cDiv_of h0 h9)]
    walk_at "F"
    rw [hback]
    exact ⟨_, ⟨cs, i, r / n, m, k + 1⟩, rfl, Int.emod_nonneg _ (by omega), Int.emod_lt_of_pos _ h0, c1, c2, Int.ediv_nonneg (by omega) (by omega), c4, c5⟩
  · simp only [hr, decide_false]
    walk_at "F"
    rw [vv_pow_r (by decide) (by decide) (by omega) (by omega)]
    walk_at "F"
    rw [vv_mod_r h0]
    walk_at "F"
    rw [hback]
    exact ⟨_, ⟨cs, i, r, _, k + 1⟩, rfl, Int.emod_nonneg _ (by omega), Int.emod_lt_of_pos _ h0, c1, c2, c3, Int.emod_nonneg _ (by decide), Int.lt_trans (Int.emod_lt_of_pos _ (by decide)) (by decide)⟩
theorem bag_ok (ns : List Int) (h : ns.length ≤ 63) : ∃ b : Bag, b.Ok ∧ m__law_bag [.d (.klst (ns.map D.int))] = .ok (.f b.M) [.d (.klst (ns.map D.int))] := by
  have hc : DL.cutD (ns.map D.int) none (some 63) = ns.map D.int := by
    have e1 : HT.sIx (ns.map D.int).length (ns.map D.int).length (some 63) = ns.length := by
      rw [List.length_map]
      exact (HT.sIx_nat ns.length ns.length 63).trans (Nat.min_eq_right h)
    unfold DL.cutD
    rw [e1]
    show List.take (ns.length - 0) (List.drop 0 (ns.map D.int)) = _
    rw [List.drop_zero, Nat.sub_zero, List.take_of_length_le (by rw [List.length_map]; exact Nat.le_refl _)]
  have loop : ∀ (xs : List Int) (m : Int) (v : Option Sv), 0 ≤ m → m < 2147483489 → isL [some (.d (.klst (ns.map D.int))), some (.d (.int m)), v] 2 = false → ∃ (m' : Int) (v' : Option Sv), 0 ≤ m' ∧ m' < 2147483489 ∧ fForL (DL.gName 2) (sAsg (fOp (op2 gModI) (fCB (opn gInt) (fCons (fOp (op2 gAdd) (fOp (op2 gAdd) (fOp (op2 gMulI) (fVar 1) (fC (.int 46183))) (fOp (op2 gModI) (fCB (opn gInt) (fCons (fVar 2) fNil)) (fC (.int 2147483399)))) (fC (.int 29))) fNil)) (fC (.int 2147483489))) (DL.gName 1)) (xs.map D.int) [some (.d (.klst (ns.map D.int))), some (.d (.int m)), v] = .nx [some (.d (.klst (ns.map D.int))), some (.d (.int m')), v'] := by
    intro xs
    induction xs with
    | nil => intro m v h1 h2 _; exact ⟨m, v, h1, h2, rfl⟩
    | cons x xs ih =>
      intro m v h1 h2 hl
      have hl : kIsL (some v) = false := hl
      obtain ⟨m', v', q1, q2, q3⟩ := ih ((m * 46183 + x % 2147483399 + 29) % 2147483489) (some (.d (.int x))) (Int.emod_nonneg _ (by decide)) (Int.emod_lt_of_pos _ (by decide)) rfl
      refine ⟨m', v', q1, q2, ?_⟩
      rw [List.map_cons, c_forL]
      have e : DL.gName 2 (.d (.int x)) [some (.d (.klst (ns.map D.int))), some (.d (.int m)), v] = some [some (.d (.klst (ns.map D.int))), some (.d (.int m)), some (.d (.int x))] := by
        rw [c_name_d, c_isL]
        show (if kIsL (some v) = true then none else _) = _
        rw [hl]; rfl
      rw [e]
      rw [c_turn]
      have e2 : ∀ b1, b1 = sAsg (fOp (op2 gModI) (fCB (opn gInt) (fCons (fOp (op2 gAdd) (fOp (op2 gAdd) (fOp (op2 gMulI) (fVar 1) (fC (.int 46183))) (fOp (op2 gModI) (fCB (opn gInt) (fCons (fVar 2) fNil)) (fC (.int 2147483399)))) (fC (.int 29))) fNil)) (fC (.int 2147483489))) (DL.gName 1) → b1 [some (.d (.klst (ns.map D.int))), some (.d (.int m)), some (.d (.int x))] = .nx [some (.d (.klst (ns.map D.int))), some (.d (.int ((m * 46183 + x % 2147483399 + 29) % 2147483489))), some (.d (.int x))] := by
        rintro b1 rfl
        walk_at "F"
      rw [e2 _ rfl]
      exact q3
  obtain ⟨m', v', q1, q2, q3⟩ := loop ns 10048 none (by decide) (by decide) rfl
  refine ⟨⟨ns, 0, 0, m', 0⟩, ⟨h, Int.le_refl 0, Int.le_refl 0, q1, q2⟩, ?_⟩
  unfold m__law_bag b__law_bag fb__law_bag
  walk_at "F"
  rw [hc, q3]
  walk_at "F"
  rw [hc]
/-- one of some values was drawn -/
theorem of_lst (b : Bag) (hb : b.Ok) (xs : List D) (h0 : 0 < xs.length) (h1 : xs.length < 1000000) : ∃ (y : D) (b' : Bag), m__law_of [.m b.M, .d (.lst xs)] = .ok (.d y) [.m b'.M, .d (.lst xs)] ∧ y ∈ xs ∧ b'.Ok := by
  obtain ⟨k, b', e, k0, k1, hb'⟩ := pull_ok b hb xs.length (by omega) (log2_lt60 (by omega))
  obtain ⟨y, hy, hm⟩ := atI_nat (xs := xs) k0 k1
  refine ⟨y, b', ?_, hm, hb'⟩
  unfold m__law_of b__law_of fb__law_of
  walk_at "F"
  rw [e]
  walk_at "F"
  rw [hy]
  walk_at "F"
/-- a loop within a def -/
theorem for_fin {g : FG} {body f : FSt} {items : List D} {s : FS} {A : List Ar} {v : FV} (I : FS → Prop) (h : I s) (step : ∀ x ∈ items, ∀ s, I s → ∃ s1, g (.d x) s = some s1 ∧ ∃ s2, body s1 = .nx s2 ∧ I s2) (rest : ∀ s', I s' → ∃ as', finF A ((O.nx s').seq f) = .ok v as') : ∃ as', finF A ((fForL g body items s).seq f) = .ok v as' := by
  obtain ⟨s', e, h'⟩ := for_inv (g := g) (body := body) (items := items) I (fun x hx s hs => by
    obtain ⟨s1, e1, s2, e2, h2⟩ := step x hx s hs
    exact ⟨s1, e1, s2, .inl e2, h2⟩) items (fun _ h => h) s h
  rw [e]; exact rest s' h'
def isNum : D → Int → Int → Bool
  | .int i, a, b => decide (a ≤ i) && decide (i ≤ b)
  | _, _, _ => false
theorem is_number_ok (x : D) (a b : Int) (h : (tyN0 x).isSome = true) : m_is_number [.d x, .d (.int a), .d (.int b)] = .ok (.d (.bl (isNum x a b))) [.d x, .d (.int a), .d (.int b)] := by
  unfold m_is_number b_is_number fb_is_number
  cases x with
  | int i =>
    walk_at "F"
    by_cases h1 : a ≤ i
    · simp only [h1, decide_true]
      walk_at "F"
      simp [isNum, h1]
    · simp only [h1, decide_false]
      walk_at "F"
      simp [isNum, h1]
  | non => walk_at "F"; rfl
  | bl b => walk_at "F"; rfl
  | str b => walk_at "F"; rfl
  | lst b => walk_at "F"; rfl
  | tup b => walk_at "F"; rfl
  | dct _ _ => walk_at "F"; rfl
  | ref _ => cases h
  | obj _ _ _ => cases h
  | ty _ => cases h
  | klst _ => cases h
  | exc _ _ _ => cases h
theorem is_byte_ok (x : D) (h : (tyN0 x).isSome = true) : m_is_byte [.d x] = .ok (.d (.bl (isNum x 0 255))) [.d x] := by
  unfold m_is_byte b_is_byte fb_is_byte
  walk_at "F"
  rw [is_number_ok x 0 255 h]
  walk_at "F"
abbrev cpsS (s : String) : List Nat := (Str.ofString s).cps.toList
def dgI (i : Int) : List Nat := (Str.ofString (toString i)).cps.toList
def joinN (sep : Nat) : List (List Nat) → List Nat
  | [] => []
  | [x] => x
  | x :: y :: xs => x ++ sep :: joinN sep (y :: xs)
def digitC (c : Nat) : Bool := decide (48 ≤ c) && decide (c ≤ 57)
/-- a number of one to three digits without leading zeros -/
def numB (w : List Nat) : Bool := decide (1 ≤ w.length) && decide (w.length ≤ 3) && w.all digitC && (decide (w = [48]) || !decide (w.head? = some 48))
theorem dg_small : ∀ n : Fin 1000, numB (dgI (n : Nat)) = true := by decide +kernel
theorem num_1 : ∀ a : Fin 10, dgI (a : Nat) = [48 + (a : Nat)] := by decide +kernel
theorem num_2 : ∀ a b : Fin 10, (a : Nat) ≠ 0 → dgI ((10 * a + b : Nat) : Int) = [48 + (a : Nat), 48 + (b : Nat)] := by decide +kernel
theorem num_3 : ∀ a b c : Fin 10, (a : Nat) ≠ 0 → dgI ((100 * a + 10 * b + c : Nat) : Int) = [48 + (a : Nat), 48 + (b : Nat), 48 + (c : Nat)] := by decide +kernel
theorem dg_num {i : Int} (h0 : 0 ≤ i) (h1 : i ≤ 999) : numB (dgI i) = true := by
  obtain ⟨n, rfl⟩ := Int.eq_ofNat_of_zero_le h0
  exact dg_small ⟨n, by omega⟩
theorem digit_fin {c : Nat} (h : digitC c = true) : ∃ a : Fin 10, c = 48 + (a : Nat) := by
  unfold digitC at h
  rw [Bool.and_eq_true, decide_eq_true_eq, decide_eq_true_eq] at h
  exact ⟨⟨c - 48, by omega⟩, by show c = 48 + (c - 48); omega⟩
theorem num_dg {w : List Nat} (h : numB w = true) : ∃ i : Int, 0 ≤ i ∧ i ≤ 999 ∧ w = dgI i := by
  unfold numB at h
  simp only [Bool.and_eq_true, Bool.or_eq_true, decide_eq_true_eq, Bool.not_eq_true', decide_eq_false_iff_not] at h
  obtain ⟨⟨⟨h1, h2⟩, h3⟩, h4⟩ := h
  match w, h1, h2, h3, h4 with
  | [a], _, _, h3, _ =>
    simp only [List.all_cons, List.all_nil, Bool.and_true] at h3
    obtain ⟨x, rfl⟩ := digit_fin h3
    exact ⟨(x : Nat), by omega, by omega, (num_1 x).symm⟩
  | [a, b], _, _, h3, h4 =>
    simp only [List.all_cons, List.all_nil, Bool.and_true, Bool.and_eq_true] at h3
    obtain ⟨x, rfl⟩ := digit_fin h3.1
    obtain ⟨y, rfl⟩ := digit_fin h3.2
    have nx : (x : Nat) ≠ 0 := fun z => by rcases h4 with h4 | h4 <;> simp [z] at h4
    exact ⟨((10 * x + y : Nat) : Int), by omega, by omega, (num_2 x y nx).symm⟩
  | [a, b, c], _, _, h3, h4 =>
    simp only [List.all_cons, List.all_nil, Bool.and_true, Bool.and_eq_true] at h3
    obtain ⟨x, rfl⟩ := digit_fin h3.1
    obtain ⟨y, rfl⟩ := digit_fin h3.2.1
    obtain ⟨z, rfl⟩ := digit_fin h3.2.2
    have nx : (x : Nat) ≠ 0 := fun z => by rcases h4 with h4 | h4 <;> simp [z] at h4
    exact ⟨((100 * x + 10 * y + z : Nat) : Int), by omega, by omega, (num_3 x y z nx).symm⟩
theorem str_dg (i : Int) : Str.ofString (toString i) = strL (dgI i) := strL_of _
theorem dg_reads {i : Int} (h0 : 0 ≤ i) (h1 : i ≤ 999) : PySem.intText? (strL (dgI i)) = some i := by
  rw [← str_dg]
  exact PySem.W.KIN.num_reads h0 (by omega)
def valN (w : List Nat) : Int := (PySem.intText? (strL w)).getD 0
theorem val_dg {i : Int} (h0 : 0 ≤ i) (h1 : i ≤ 999) : valN (dgI i) = i := by unfold valN; rw [dg_reads h0 h1]; rfl
theorem num_val {w : List Nat} (h : numB w = true) : PySem.intText? (strL w) = some (valN w) ∧ 0 ≤ valN w ∧ valN w ≤ 999 := by
  obtain ⟨i, h0, h1, rfl⟩ := num_dg h
  rw [val_dg h0 h1]
  exact ⟨dg_reads h0 h1, h0, h1⟩
theorem join_strL (sep : Nat) : ∀ xs : List (List Nat), Str.join (strL [sep]) (xs.map strL) = strL (joinN sep xs)
  | [] => rfl
  | [x] => by simp [Str.join, joinN]
  | x :: y :: xs => by
    rw [List.map_cons, List.map_cons, PyProof.Rows.join_cons_cons, ← List.map_cons, join_strL sep (y :: xs), strL_app, strL_app, joinN]
    simp
def splN (sep : Nat) : List Nat → List Nat → List (List Nat)
  | acc, [] => [acc]
  | acc, c :: r => if c = sep then acc :: splN sep [] r else splN sep (acc ++ [c]) r
theorem splN_eq (sep : Nat) : ∀ (l acc : List Nat), TL.spl [sep] 0 acc l = splN sep acc l
  | [], acc => rfl
  | c :: r, acc => by
    have hp : TL.pre [sep] (c :: r) = decide (c = sep) := by
      unfold TL.pre
      show ([c] == [sep]) = _
      rw [Bool.eq_iff_iff]; simp
    by_cases h : c = sep
    · rw [TL.spl_hit (by rw [hp]; exact decide_eq_true h), splN, if_pos h]
      exact congrArg _ (splN_eq sep r [])
    · rw [TL.spl_miss (by rw [hp]; exact decide_eq_false h), splN, if_neg h]
      exact splN_eq sep r _
theorem split_strL {sep : Nat} (hs : sep < 256) (a : List Nat) : Txt.split (strL a) (strL [sep]) = (splN sep [] a).map strL := by
  rw [← splN_eq]
  exact SX.split_S (a := a) (b := [sep]) (by simp) (by simp [hs])
theorem splN_mem (sep : Nat) : ∀ (l acc : List Nat) (p : List Nat), p ∈ splN sep acc l → (∀ c ∈ p, c ∈ acc ∨ c ∈ l) ∧ p.length ≤ acc.length + l.length
  | [], acc, p, h => by
    rw [splN, List.mem_singleton] at h
    subst h
    exact ⟨fun c hc => .inl hc, by simp⟩
  | c :: r, acc, p, h => by
    rw [splN] at h
    split at h
    · rcases List.mem_cons.mp h with rfl | h
      · exact ⟨fun c hc => .inl hc, by simp⟩
      · obtain ⟨h1, h2⟩ := splN_mem sep r [] p h
        refine ⟨fun x hx => ?_, by simp at h2 ⊢; omega⟩
        rcases h1 x hx with h | h
        · cases h
        · exact .inr (List.mem_cons_of_mem _ h)
    · obtain ⟨h1, h2⟩ := splN_mem sep r (acc ++ [c]) p h
      refine ⟨fun x hx => ?_, by simp at h2 ⊢; omega⟩
      rcases h1 x hx with h | h
      · rcases List.mem_append.mp h with h | h
        · exact .inl h
        · rw [List.mem_singleton] at h; subst h; exact .inr List.mem_cons_self
      · exact .inr (List.mem_cons_of_mem _ h)
theorem splN_word (sep : Nat) : ∀ (w acc rest : List Nat), sep ∉ w → splN sep acc (w ++ rest) = splN sep (acc ++ w) rest
  | [], acc, rest, _ => by simp
  | c :: w, acc, rest, h => by
    have hc : c ≠ sep := fun e => h (by rw [e]; exact List.mem_cons_self)
    rw [List.cons_append, splN, if_neg hc, splN_word sep w _ rest fun z => h (List.mem_cons_of_mem _ z)]
    simp
theorem splN_join (sep : Nat) : ∀ (w : List Nat) (ws : List (List Nat)), (∀ x ∈ w :: ws, sep ∉ x) → splN sep [] (joinN sep (w :: ws)) = w :: ws
  | w, [], h => by
    have := splN_word sep w [] [] (h w List.mem_cons_self)
    rw [List.append_nil] at this
    rw [joinN, this]; rfl
  | w, v :: ws, h => by
    rw [joinN, splN_word sep w [] _ (h w List.mem_cons_self), List.nil_append, splN, if_pos rfl, splN_join sep v ws fun x hx => h x (List.mem_cons_of_mem _ hx)]
theorem splN_ne (sep : Nat) : ∀ l acc : List Nat, splN sep acc l ≠ []
  | [], acc => by rw [splN]; simp
  | c :: r, acc => by
    rw [splN]
    split
    · simp
    · exact splN_ne sep r _
theorem splN_one (sep : Nat) : ∀ (l acc w : List Nat), splN sep acc l = [w] → w = acc ++ l
  | [], acc, w, h => by rw [splN] at h; cases h; simp
  | c :: r, acc, w, h => by
    rw [splN] at h
    split at h
    · cases h1 : splN sep [] r with
      | nil => exact absurd h1 (splN_ne sep r [])
      | cons a b => rw [h1] at h; cases h
    · rw [splN_one sep r _ w h]; simp
theorem sok_strL {l : List Nat} (h1 : ∀ c ∈ l, c < 256) (h2 : l.length ≤ 6000) : sokB (strL l) = true := by
  unfold sokB
  rw [Bool.and_eq_true, decide_eq_true_eq]
  refine ⟨?_, by rw [strL_len, sizeLine_eq]; omega⟩
  unfold PyData.strOk
  rw [← Array.all_toList, List.all_eq_true]
  intro c hc
  have := h1 c (by simpa using hc)
  simp; omega
theorem gsplit_ok {sep : Nat} (hs : sep < 256) {l : List Nat} (h1 : ∀ c ∈ l, c < 256) (h2 : l.length ≤ 6000) : gSplit (strL l) [.str (strL [sep])] = some (.lst (((splN sep [] l).map strL).map D.str)) := by
  rw [vv_split, split_strL hs, if_pos]
  refine ⟨by simp [Str.length], by rw [strL_len, sizeLine_eq]; omega, ?_⟩
  rw [List.all_map, List.all_eq_true]
  intro p hp
  obtain ⟨q1, q2⟩ := splN_mem sep l [] p hp
  refine sok_strL (fun c hc => ?_) (by simp at q2; omega)
  rcases q1 c hc with h | h
  · cases h
  · exact h1 c h
abbrev exT : D := .exc C_InvalidText ["at", "code"] [.int 0, .str "InvalidText"]
def isB8 (ns : List Int) : Bool := decide (ns.length ≤ 8) && ns.all fun n => decide (0 ≤ n) && decide (n ≤ 255)
theorem are_bytes_ok (ns : List Int) (h : ns.length ≤ 7000) : m_are_bytes [.d (.tup (ns.map D.int)), .d (.int 8)] = .ok (.d (.bl (isB8 ns))) [.d (.tup (ns.map D.int)), .d (.int 8)] := by
  unfold m_are_bytes b_are_bytes fb_are_bytes
  have e : fLc (fIA (fVar 0)) (DL.gName 2) fYes (fCall m_is_byte [] (fCons (fVar 2) fNil)) [2] [some (.d (.tup (ns.map D.int))), some (.d (.int 8)), none] = .ok (.d (.lst ((ns.map fun n => decide (0 ≤ n) && decide (n ≤ 255)).map D.bl))) [some (.d (.tup (ns.map D.int))), some (.d (.int 8)), none] := by
    have := lc_map (fi := fIA (fVar 0)) (g := DL.gName 2) (fe := fCall m_is_byte [] (fCons (fVar 2) fNil)) (vs := [2]) (s := [some (.d (.tup (ns.map D.int))), some (.d (.int 8)), none]) (s1 := [some (.d (.tup (ns.map D.int))), some (.d (.int 8)), none]) (xs := ns.map D.int) (fun d => .bl (isNum d 0 255)) rfl
      (by walk_at "F") rfl (fun i hi sv e => by
        simp only [List.mem_cons, List.not_mem_nil, or_false] at hi
        subst hi; simp at e) (by rw [List.length_map]; show _ ≤ 1000000; omega) (fun x hx => by
        obtain ⟨n, -, rfl⟩ := List.mem_map.mp hx
        refine ⟨[some (.d (.tup (ns.map D.int))), some (.d (.int 8)), some (.d (.int n))], rfl, [some (.d (.tup (ns.map D.int))), some (.d (.int 8)), some (.d (.int n))], ?_, rfl⟩
        generalize ns.map D.int = L
        walk_at "F"
        rw [is_byte_ok (.int n) rfl]
        try walk_at "F"
        try rfl)
    rw [this, List.map_map, List.map_map]; rfl
  have hlen : (((ns.map D.int).length : Nat) : Int) = (ns.length : Int) := by simp
  walk_at "F"
  by_cases h8 : (((ns.map D.int).length : Nat) : Int) ≤ 8
  · simp only [h8, decide_true]
    have e2 : decide (ns.length ≤ 8) = true := decide_eq_true (by omega)
    walk_at "F"
    rw [e]
    walk_at "F"
    simp [isB8, e2, List.all_map]
  · simp only [h8, decide_false]
    have e2 : decide (ns.length ≤ 8) = false := decide_eq_false (by omega)
    walk_at "F"
    simp [isB8, e2]
theorem in_ev (h : Str) (xs : List D) (hx : pyOks xs = true) : gInB false (.tup (.str h :: xs)) (.tup [.tup [.str "item"], .tup [.str "end"]]) = some (.bl ((decide (h = "item") || decide (h = "end")) && xs.isEmpty)) := by
  show (if inOk (.tup (.str h :: xs)) [.tup [.str "item"], .tup [.str "end"]] = true then some (D.bl (false ^^ dIn (.tup (.str h :: xs)) [.tup [.str "item"], .tup [.str "end"]])) else none) = _
  have e1 : inOk (.tup (.str h :: xs)) [.tup [.str "item"], .tup [.str "end"]] = true := by
    unfold inOk
    rw [Bool.and_eq_true, Bool.and_eq_true, decide_eq_true_eq]
    refine ⟨⟨hx, rfl⟩, Nat.le_trans (Nat.min_le_left _ _) (by decide)⟩
  have e2 : dIn (.tup (.str h :: xs)) [.tup [.str "item"], .tup [.str "end"]] = ((decide (h = "item") || decide (h = "end")) && xs.isEmpty) := by
    show (dEqv (.tup [.str "item"]) (.tup (.str h :: xs)) || (dEqv (.tup [.str "end"]) (.tup (.str h :: xs)) || false)) = _
    have c : ∀ a b : Str, decide (a = b) = decide (b = a) := fun a b => decide_eq_decide.mpr eq_comm
    rw [dEqv_tup, dEqv_tup, dEqvs_cons, dEqvs_cons, dEqv_str, dEqv_str, c "item" h, c "end" h]
    cases xs with
    | nil => simp [dEqvs_nil]
    | cons a as => simp [dEqvs_nil_cons]
  rw [if_pos e1, e2]; simp
theorem pyOks_ints (ns : List Int) : pyOks (ns.map D.int) = true := by
  rw [pyOks_eq, List.all_map]; simp only [List.all_eq_true]; intro x _; rfl
/-- found = ("free", numbers) -/
theorem isev_free (ns : List Int) (h : ns.length ≤ 7000) : m_is_event [.d (.tup [.str "free", .tup (ns.map D.int)])] = .ok (.d (.bl (isB8 ns && decide (0 < ns.length)))) [.d (.tup [.str "free", .tup (ns.map D.int)])] := by
  have i1 : gInB false (.tup [.str "free", .tup (ns.map D.int)]) (.tup [.tup [.str "item"], .tup [.str "end"]]) = some (.bl false) := by
    rw [in_ev "free" [.tup (ns.map D.int)] (by show (pyOks (ns.map D.int) && true) = true; rw [pyOks_ints]; rfl), show ([D.tup (ns.map D.int)]).isEmpty = false from rfl, Bool.and_false]
  have a1 := are_bytes_ok ns h
  have hl : ((ns.map D.int).length) = ns.length := by simp
  unfold m_is_event b_is_event fb_is_event
  generalize ns.map D.int = L at *
  walk_at "F"
  rw [i1]
  walk_at "F"
  rw [a1]
  walk_at "F"
  cases isB8 ns with
  | false => walk_at "F"
  | true =>
    walk_at "F"
    rw [hl]
    have : decide ((0 : Int) < (ns.length : Int)) = decide (0 < ns.length) := decide_eq_decide.mpr (by omega)
    rw [this]
/-- found = (item, *numbers) -/
theorem isev_item (h : Str) (hh : h = "item" ∨ h = "end") (ns : List Int) : m_is_event [.d (.tup (.str h :: ns.map D.int))] = .ok (.d (.bl ns.isEmpty)) [.d (.tup (.str h :: ns.map D.int))] := by
  have i1 := in_ev h (ns.map D.int) (pyOks_ints ns)
  have e0 : (decide (h = "item") || decide (h = "end")) = true := by rcases hh with rfl | rfl <;> decide +kernel
  have f1 : decide (h = "free") = false := by rcases hh with rfl | rfl <;> decide +kernel
  have f2 : decide (h = "pick") = false := by rcases hh with rfl | rfl <;> decide +kernel
  have f3 : decide (h = "size") = false := by rcases hh with rfl | rfl <;> decide +kernel
  rw [e0, Bool.true_and] at i1
  unfold m_is_event b_is_event fb_is_event
  match ns with
  | [] =>
    have i1 : gInB false (.tup [.str h]) (.tup [.tup [.str "item"], .tup [.str "end"]]) = some (.bl true) := i1
    walk_at "F"
    rw [i1]
    try walk_at "F"
    try rfl
  | [n] =>
    have i1 : gInB false (.tup [.str h, .int n]) (.tup [.tup [.str "item"], .tup [.str "end"]]) = some (.bl false) := i1
    walk_at "F"
    rw [i1]
    try walk_at "F"
    rw [f1]
    try walk_at "F"
    rw [f2]
    try walk_at "F"
    rw [f3]
    try walk_at "F"
    try rfl
  | n :: m :: ns =>
    have i1 : gInB false (.tup (.str h :: (n :: m :: ns).map D.int)) (.tup [.tup [.str "item"], .tup [.str "end"]]) = some (.bl false) := i1
    have hl : decide ((((D.str h :: (n :: m :: ns).map D.int).length : Nat) : Int) = 2) = false := decide_eq_false (by simp; omega)
    generalize hL : (n :: m :: ns).map D.int = L at *
    walk_at "F"
    rw [i1]
    walk_at "F"
    simp only [List.length_cons] at hl
    rw [hl]
    walk_at "F"
    try rfl
/-- found = (word, None or a number) -/
def isN : Option Int → Int → Bool
  | none, _ => false
  | some n, k => decide (0 ≤ n) && decide (n ≤ k)
def oD : Option Int → D
  | none => .non
  | some n => .int n
theorem isev_word (h : Str) (h1 : h ≠ "item") (h2 : h ≠ "end") (h3 : h ≠ "free") (o : Option Int) : m_is_event [.d (.tup [.str h, oD o])] = .ok (.d (.bl (if h = "pick" then isN o 255 else if h = "size" then isN o 9 else false))) [.d (.tup [.str h, oD o])] := by
  have i1 := in_ev h [oD o] (by cases o <;> rfl)
  rw [decide_eq_false h1, decide_eq_false h2, Bool.or_self, Bool.false_and] at i1
  have f1 : decide (h = "free") = false := decide_eq_false h3
  have b1 : m_is_byte [.d (oD o)] = .ok (.d (.bl (isN o 255))) [.d (oD o)] := by rw [is_byte_ok _ (by cases o <;> rfl)]; cases o <;> rfl
  have b2 : m_is_number [.d (oD o), .d (.int 0), .d (.int 9)] = .ok (.d (.bl (isN o 9))) [.d (oD o), .d (.int 0), .d (.int 9)] := by rw [is_number_ok _ _ _ (by cases o <;> rfl)]; cases o <;> rfl
  generalize oD o = x at *
  generalize isN o 255 = p at *
  generalize isN o 9 = q at *
  have i1 : gInB false (.tup [.str h, x]) (.tup [.tup [.str "item"], .tup [.str "end"]]) = some (.bl false) := i1
  unfold m_is_event b_is_event fb_is_event
  by_cases g1 : h = "pick"
  · have g1' : decide (h = "pick") = true := decide_eq_true g1
    rw [if_pos g1]
    walk_at "F"
    rw [i1]
    try walk_at "F"
    rw [f1]
    try walk_at "F"
    rw [g1']
    try walk_at "F"
    rw [b1]
    try walk_at "F"
    try rfl
  · have g1' : decide (h = "pick") = false := decide_eq_false g1
    rw [if_neg g1]
    by_cases g2 : h = "size"
    · have g2' : decide (h = "size") = true := decide_eq_true g2
      rw [if_pos g2]
      walk_at "F"
      rw [i1]
      try walk_at "F"
      rw [f1]
      try walk_at "F"
      rw [g1']
      try walk_at "F"
      rw [g2']
      try walk_at "F"
      rw [b2]
      try walk_at "F"
      try rfl
    · have g2' : decide (h = "size") = false := decide_eq_false g2
      rw [if_neg g2]
      walk_at "F"
      rw [i1]
      try walk_at "F"
      rw [f1]
      try walk_at "F"
      rw [g1']
      try walk_at "F"
      rw [g2']
      try walk_at "F"
      try rfl
theorem digits_mem (c : Nat) : decide (c ∈ (Str.ofString "0123456789").cps.toList) = digitC c := by
  have e : (Str.ofString "0123456789").cps.toList = (List.range 10).map (48 + ·) := by decide +kernel
  rw [e]
  unfold digitC
  rw [← Bool.decide_and]
  refine decide_eq_decide.mpr ?_
  simp only [List.mem_map, List.mem_range]
  exact ⟨fun ⟨a, h, e⟩ => by omega, fun h => ⟨c - 48, by omega, by omega⟩⟩
theorem dig_lc (w : List Nat) (hl : w.length ≤ 6000) : fLc (fIA (fVar 0)) (DL.gName 1) fYes (fOp (op2 (gInB false)) (fVar 1) (fC (.str "0123456789"))) [1] [some (.d (.str (strL w))), none] = .ok (.d (.lst ((w.map digitC).map .bl))) [some (.d (.str (strL w))), none] := by
  have L := lc_map (fi := fIA (fVar 0)) (g := DL.gName 1) (fe := fOp (op2 (gInB false)) (fVar 1) (fC (.str "0123456789"))) (vs := [1]) (s := [some (.d (.str (strL w))), none]) (s1 := [some (.d (.str (strL w))), none]) (xs := w.map fun c => .str ⟨#[c]⟩) (fun d => match d with | .str z => .bl (match z.cps.toList with | [c] => digitC c | _ => false) | _ => .non) rfl (by walk_at "F"; try rfl) rfl (fun i hi sv e => by
    simp only [List.mem_cons, List.not_mem_nil, or_false] at hi
    subst hi
    simp at e) (by rw [List.length_map]; exact Nat.le_trans hl (by decide)) (fun d hd => by
    obtain ⟨c, -, rfl⟩ := List.mem_map.mp hd
    refine ⟨[some (.d (.str (strL w))), some (.d (.str ⟨#[c]⟩))], rfl, [some (.d (.str (strL w))), some (.d (.str ⟨#[c]⟩))], ?_, rfl⟩
    show _ = Rs.ok (FV.d (.bl (digitC c))) _
    rw [← digits_mem]
    generalize strL w = T
    walk_at "F"
    show kRet _ (gInB false (.str ⟨#[c]⟩) (.str _)) = _
    unfold gInB
    simp only [Bool.false_bne]
    rfl)
  rw [L]
  simp only [List.map_map]
  rfl
theorem eq_zero (w : List Nat) : decide (strL w = ("0" : Str)) = decide (w = [48]) := by
  have e : ("0" : Str) = strL [48] := by decide +kernel
  rw [e]
  exact decide_eq_decide.mpr ⟨strL_inj, fun h => by rw [h]⟩
theorem eq_zero1 (a : Nat) : decide ((⟨#[a]⟩ : Str) = ("0" : Str)) = decide (a = 48) := by
  have e : ("0" : Str) = strL [48] := by decide +kernel
  rw [e]
  exact decide_eq_decide.mpr ⟨fun h => by have := strL_inj (a := [a]) h; simpa using this, fun h => by rw [h]⟩
theorem all_map_id {α : Type} (p : α → Bool) (l : List α) : (l.map p).all id = l.all p := by rw [List.all_map]; rfl
theorem plain_ok (w : List Nat) (hl : w.length ≤ 6000) : m_is_plain_number [.d (.str (strL w))] = .ok (.d (.bl (numB w))) [.d (.str (strL w))] := by
  have L := dig_lc w hl
  unfold m_is_plain_number b_is_plain_number fb_is_plain_number
  by_cases h1 : 1 ≤ w.length
  · by_cases h3 : w.length ≤ 3
    · have e1 : decide ((1 : Int) ≤ (((strL w).length : Nat) : Int)) = true := decide_eq_true (by rw [strL_len]; omega)
      have e3 : decide ((((strL w).length : Nat) : Int) ≤ 3) = true := decide_eq_true (by rw [strL_len]; omega)
      obtain ⟨a, r, rfl⟩ : ∃ a r, w = a :: r := by cases w with | nil => simp at h1 | cons a r => exact ⟨a, r, rfl⟩
      have hat : (strL (a :: r)).cps.toList = a :: r := by simp
      have z1 := eq_zero (a :: r)
      have z2 := eq_zero1 a
      have hN : numB (a :: r) = ((a :: r).all digitC && (decide (a :: r = [48]) || !decide (a = 48))) := by
        unfold numB
        rw [decide_eq_true h1, decide_eq_true h3]
        simp
      rw [hN]
      have hA := all_map_id digitC (a :: r)
      generalize strL (a :: r) = T at *
      generalize (a :: r).map digitC = MM at *
      rw [← hA]
      generalize hDD : decide (a :: r = [48]) = D0 at *
      walk_at "F"
      rw [e1]
      walk_at "F"
      rw [e3]
      walk_at "F"
      rw [L]
      walk_at "F"
      cases MM.all id with
      | false => walk_at "F"
      | true =>
        walk_at "F"
        rw [z1]
        cases D0 with
        | true => walk_at "F"
        | false =>
          walk_at "F"
          rw [hat]
          walk_at "F"
          rw [z2]
          try walk_at "F"
          try rfl
    · have e1 : decide ((1 : Int) ≤ (((strL w).length : Nat) : Int)) = true := decide_eq_true (by rw [strL_len]; omega)
      have e3 : decide ((((strL w).length : Nat) : Int) ≤ 3) = false := decide_eq_false (by rw [strL_len]; omega)
      have hN : numB w = false := by unfold numB; rw [decide_eq_false h3]; simp
      rw [hN]
      generalize strL w = T at *
      walk_at "F"
      rw [e1]
      walk_at "F"
      rw [e3]
      walk_at "F"
  · have e1 : decide ((1 : Int) ≤ (((strL w).length : Nat) : Int)) = false := decide_eq_false (by rw [strL_len]; omega)
    have hN : numB w = false := by unfold numB; rw [decide_eq_false h1]; simp
    rw [hN]
    generalize strL w = T at *
    walk_at "F"
    rw [e1]
    walk_at "F"
theorem so_ok (w : List Nat) (hl : w.length ≤ 6000) : m__law_number_so [.d (.str (strL w))] = .ok (.d (.bl (numB w))) [.d (.str (strL w))] := by
  have L := dig_lc w hl
  unfold m__law_number_so b__law_number_so fb__law_number_so
  by_cases h1 : 1 ≤ w.length
  · by_cases h3 : w.length ≤ 3
    · have e1 : decide ((1 : Int) ≤ (((strL w).length : Nat) : Int)) = true := decide_eq_true (by rw [strL_len]; omega)
      have e3 : decide ((((strL w).length : Nat) : Int) ≤ 3) = true := decide_eq_true (by rw [strL_len]; omega)
      obtain ⟨a, r, rfl⟩ : ∃ a r, w = a :: r := by cases w with | nil => simp at h1 | cons a r => exact ⟨a, r, rfl⟩
      have hat : (strL (a :: r)).cps.toList = a :: r := by simp
      have z1 := eq_zero (a :: r)
      have z2 := eq_zero1 a
      have hN : numB (a :: r) = ((a :: r).all digitC && (decide (a :: r = [48]) || !decide (a = 48))) := by
        unfold numB
        rw [decide_eq_true h1, decide_eq_true h3]
        simp
      rw [hN]
      have hA := all_map_id digitC (a :: r)
      generalize strL (a :: r) = T at *
      generalize (a :: r).map digitC = MM at *
      rw [← hA]
      generalize hDD : decide (a :: r = [48]) = D0 at *
      walk_at "F"
      rw [e1]
      walk_at "F"
      rw [e3]
      walk_at "F"
      rw [L]
      walk_at "F"
      cases MM.all id with
      | false => walk_at "F"
      | true =>
        walk_at "F"
        rw [z1]
        cases D0 with
        | true => walk_at "F"
        | false =>
          walk_at "F"
          rw [hat]
          walk_at "F"
          rw [z2]
          try walk_at "F"
          try rfl
    · have e1 : decide ((1 : Int) ≤ (((strL w).length : Nat) : Int)) = true := decide_eq_true (by rw [strL_len]; omega)
      have e3 : decide ((((strL w).length : Nat) : Int) ≤ 3) = false := decide_eq_false (by rw [strL_len]; omega)
      have hN : numB w = false := by unfold numB; rw [decide_eq_false h3]; simp
      rw [hN]
      generalize strL w = T at *
      walk_at "F"
      rw [e1]
      walk_at "F"
      rw [e3]
      walk_at "F"
  · have e1 : decide ((1 : Int) ≤ (((strL w).length : Nat) : Int)) = false := decide_eq_false (by rw [strL_len]; omega)
    have hN : numB w = false := by unfold numB; rw [decide_eq_false h1]; simp
    rw [hN]
    generalize strL w = T at *
    walk_at "F"
    rw [e1]
    walk_at "F"
theorem allD_map : ∀ L : List D, allD (L.map FV.d) = some L
  | [] => rfl
  | x :: L => by rw [List.map_cons]; show (match allD (L.map FV.d) with | some xs => some (x :: xs) | none => none) = _; rw [allD_map L]
def one22 : List Int → Option Int
  | [n] => some n
  | _ => none
def evF (H : Str) (ns : List Int) : Option D :=
  if H = "free" then (if (isB8 ns && decide (0 < ns.length)) = true then some (.tup [.str "free", .tup (ns.map D.int)]) else none)
  else if H = "item" ∨ H = "end" then (if ns.isEmpty = true then some (.tup (.str H :: ns.map D.int)) else none)
  else if (if H = "pick" then isN (one22 ns) 255 else if H = "size" then isN (one22 ns) 9 else false) = true then some (.tup [.str H, oD (one22 ns)]) else none
def evW : List (List Nat) → Option D
  | [] => none
  | h :: r => if r.all numB = true then evF (strL h) (r.map valN) else none
def evT (cs : List Nat) : Option D := evW (splN 32 [] cs)
theorem lc_plain (T h : D) (r : List (List Nat)) (hr : ∀ w ∈ r, w.length ≤ 6000) (hl : r.length ≤ 6002) : fLc (fIA (fSl gCut (fVar 1) (fPart (fC (.int 1))) fNoPart)) (DL.gName 4) fYes (fCall m_is_plain_number [] (fCons (fVar 4) fNil)) [4] [some (.d T), some (.d (.lst (h :: (r.map strL).map D.str))), none, none, none] = .ok (.d (.lst ((r.map numB).map D.bl))) [some (.d T), some (.d (.lst (h :: (r.map strL).map D.str))), none, none, none] := by
  have L := lc_map (fi := fIA (fSl gCut (fVar 1) (fPart (fC (.int 1))) fNoPart)) (g := DL.gName 4) (fe := fCall m_is_plain_number [] (fCons (fVar 4) fNil)) (vs := [4]) (s := [some (.d T), some (.d (.lst (h :: (r.map strL).map D.str))), none, none, none]) (s1 := [some (.d T), some (.d (.lst (h :: (r.map strL).map D.str))), none, none, none]) (xs := (r.map strL).map D.str) (fun d => match d with | .str z => .bl (numB z.cps.toList) | _ => .non) rfl (by
      generalize (r.map strL).map D.str = Q
      walk_at "F"
      rw [cut1]) rfl (fun i hi sv e => by
    simp only [List.mem_cons, List.not_mem_nil, or_false] at hi
    subst hi
    simp at e) (by rw [List.length_map, List.length_map]; show _ ≤ 1000000; omega) (fun d hd => by
    obtain ⟨z, hz, rfl⟩ := List.mem_map.mp hd
    obtain ⟨w, hw, rfl⟩ := List.mem_map.mp hz
    generalize (r.map strL).map D.str = Q
    refine ⟨[some (.d T), some (.d (.lst (h :: Q))), none, none, some (.d (.str (strL w)))], rfl, [some (.d T), some (.d (.lst (h :: Q))), none, none, some (.d (.str (strL w)))], ?_, rfl⟩
    have e := plain_ok w (hr w hw)
    have e2 : numB (strL w).cps.toList = numB w := by simp
    show _ = Rs.ok (FV.d (.bl (numB (strL w).cps.toList))) _
    rw [e2]
    generalize strL w = W at *
    walk_at "F"
    rw [e]
    try walk_at "F"
    try rfl)
  rw [L, List.map_map, List.map_map, List.map_map]
  simp [Function.comp_def]
theorem lc_so (T h : D) (r : List (List Nat)) (hr : ∀ w ∈ r, w.length ≤ 6000) (hl : r.length ≤ 6002) : fLc (fIA (fSl gCut (fVar 1) (fPart (fC (.int 1))) fNoPart)) (DL.gName 5) fYes (fCall m__law_number_so [] (fCons (fVar 5) fNil)) [5] [some (.d T), some (.d (.lst (h :: (r.map strL).map D.str))), none, none, none, none, none] = .ok (.d (.lst ((r.map numB).map D.bl))) [some (.d T), some (.d (.lst (h :: (r.map strL).map D.str))), none, none, none, none, none] := by
  have L := lc_map (fi := fIA (fSl gCut (fVar 1) (fPart (fC (.int 1))) fNoPart)) (g := DL.gName 5) (fe := fCall m__law_number_so [] (fCons (fVar 5) fNil)) (vs := [5]) (s := [some (.d T), some (.d (.lst (h :: (r.map strL).map D.str))), none, none, none, none, none]) (s1 := [some (.d T), some (.d (.lst (h :: (r.map strL).map D.str))), none, none, none, none, none]) (xs := (r.map strL).map D.str) (fun d => match d with | .str z => .bl (numB z.cps.toList) | _ => .non) rfl (by
      generalize (r.map strL).map D.str = Q
      walk_at "F"
      rw [cut1]) rfl (fun i hi sv e => by
    simp only [List.mem_cons, List.not_mem_nil, or_false] at hi
    subst hi
    simp at e) (by rw [List.length_map, List.length_map]; show _ ≤ 1000000; omega) (fun d hd => by
    obtain ⟨z, hz, rfl⟩ := List.mem_map.mp hd
    obtain ⟨w, hw, rfl⟩ := List.mem_map.mp hz
    generalize (r.map strL).map D.str = Q
    refine ⟨[some (.d T), some (.d (.lst (h :: Q))), none, none, none, some (.d (.str (strL w))), none], rfl, [some (.d T), some (.d (.lst (h :: Q))), none, none, none, some (.d (.str (strL w))), none], ?_, rfl⟩
    have e := so_ok w (hr w hw)
    have e2 : numB (strL w).cps.toList = numB w := by simp
    show _ = Rs.ok (FV.d (.bl (numB (strL w).cps.toList))) _
    rw [e2]
    generalize strL w = W at *
    walk_at "F"
    rw [e]
    try walk_at "F"
    try rfl)
  rw [L, List.map_map, List.map_map, List.map_map]
  simp [Function.comp_def]
theorem gint_ok {w : List Nat} (h : numB w = true) : gIntS [.str (strL w)] = some (.int (valN w)) := by
  rw [vv_intS, (num_val h).1, strL_len, if_pos]
  · rfl
  · unfold numB at h
    simp only [Bool.and_eq_true, decide_eq_true_eq] at h
    omega
theorem lc_int4 (T h : D) (r : List (List Nat)) (hr : r.all numB = true) (hl : r.length ≤ 6002) : fLc (fIA (fSl gCut (fVar 1) (fPart (fC (.int 1))) fNoPart)) (DL.gName 4) fYes (fCB (opn gIntS) (fCons (fVar 4) fNil)) [4] [some (.d T), some (.d (.lst (h :: (r.map strL).map D.str))), none, none, none] = .ok (.d (.lst ((r.map valN).map D.int))) [some (.d T), some (.d (.lst (h :: (r.map strL).map D.str))), none, none, none] := by
  have L := lc_map (fi := fIA (fSl gCut (fVar 1) (fPart (fC (.int 1))) fNoPart)) (g := DL.gName 4) (fe := fCB (opn gIntS) (fCons (fVar 4) fNil)) (vs := [4]) (s := [some (.d T), some (.d (.lst (h :: (r.map strL).map D.str))), none, none, none]) (s1 := [some (.d T), some (.d (.lst (h :: (r.map strL).map D.str))), none, none, none]) (xs := (r.map strL).map D.str) (fun d => match d with | .str z => .int (valN z.cps.toList) | _ => .non) rfl (by
      generalize (r.map strL).map D.str = Q
      walk_at "F"
      rw [cut1]) rfl (fun i hi sv e => by
    simp only [List.mem_cons, List.not_mem_nil, or_false] at hi
    subst hi
    simp at e) (by rw [List.length_map, List.length_map]; show _ ≤ 1000000; omega) (fun d hd => by
    obtain ⟨z, hz, rfl⟩ := List.mem_map.mp hd
    obtain ⟨w, hw, rfl⟩ := List.mem_map.mp hz
    generalize (r.map strL).map D.str = Q
    refine ⟨[some (.d T), some (.d (.lst (h :: Q))), none, none, some (.d (.str (strL w)))], rfl, [some (.d T), some (.d (.lst (h :: Q))), none, none, some (.d (.str (strL w)))], ?_, rfl⟩
    have e := gint_ok (List.all_eq_true.mp hr w hw)
    have e2 : valN (strL w).cps.toList = valN w := by simp
    show _ = Rs.ok (FV.d (.int (valN (strL w).cps.toList))) _
    rw [e2]
    generalize strL w = W at *
    walk_at "F"
    rw [e]
    try walk_at "F"
    try rfl)
  rw [L, List.map_map, List.map_map, List.map_map]
  simp [Function.comp_def]
theorem lc_int5 (T h : D) (r : List (List Nat)) (hr : r.all numB = true) (hl : r.length ≤ 6002) : fLc (fIA (fSl gCut (fVar 1) (fPart (fC (.int 1))) fNoPart)) (DL.gName 5) fYes (fCB (opn gIntS) (fCons (fVar 5) fNil)) [5] [some (.d T), some (.d (.lst (h :: (r.map strL).map D.str))), none, none, none, none, none] = .ok (.d (.lst ((r.map valN).map D.int))) [some (.d T), some (.d (.lst (h :: (r.map strL).map D.str))), none, none, none, none, none] := by
  have L := lc_map (fi := fIA (fSl gCut (fVar 1) (fPart (fC (.int 1))) fNoPart)) (g := DL.gName 5) (fe := fCB (opn gIntS) (fCons (fVar 5) fNil)) (vs := [5]) (s := [some (.d T), some (.d (.lst (h :: (r.map strL).map D.str))), none, none, none, none, none]) (s1 := [some (.d T), some (.d (.lst (h :: (r.map strL).map D.str))), none, none, none, none, none]) (xs := (r.map strL).map D.str) (fun d => match d with | .str z => .int (valN z.cps.toList) | _ => .non) rfl (by
      generalize (r.map strL).map D.str = Q
      walk_at "F"
      rw [cut1]) rfl (fun i hi sv e => by
    simp only [List.mem_cons, List.not_mem_nil, or_false] at hi
    subst hi
    simp at e) (by rw [List.length_map, List.length_map]; show _ ≤ 1000000; omega) (fun d hd => by
    obtain ⟨z, hz, rfl⟩ := List.mem_map.mp hd
    obtain ⟨w, hw, rfl⟩ := List.mem_map.mp hz
    generalize (r.map strL).map D.str = Q
    refine ⟨[some (.d T), some (.d (.lst (h :: Q))), none, none, none, some (.d (.str (strL w))), none], rfl, [some (.d T), some (.d (.lst (h :: Q))), none, none, none, some (.d (.str (strL w))), none], ?_, rfl⟩
    have e := gint_ok (List.all_eq_true.mp hr w hw)
    have e2 : valN (strL w).cps.toList = valN w := by simp
    show _ = Rs.ok (FV.d (.int (valN (strL w).cps.toList))) _
    rw [e2]
    generalize strL w = W at *
    walk_at "F"
    rw [e]
    try walk_at "F"
    try rfl)
  rw [L, List.map_map, List.map_map, List.map_map]
  simp [Function.comp_def]
def evR (x : D) : Option D → Rm
  | some d => .ok (.d d) [.d x]
  | none => .ex exT [.d x]
theorem read_ok22 {cs : List Nat} (h1 : ∀ c ∈ cs, c < 256) (h2 : cs.length ≤ 6000) : m_read_event [.d (.str (strL cs))] = evR (.str (strL cs)) (evT cs) := by
  have hs := gsplit_ok (sep := 32) (by decide) h1 h2
  have hsp : (" " : Str) = strL [32] := by decide +kernel
  rw [← hsp] at hs
  unfold evT
  have hlen : ∀ p ∈ splN 32 [] cs, p.length ≤ 6000 := fun p hp => by
    have := (splN_mem 32 cs [] p hp).2
    simp at this; omega
  have hl2 : (splN 32 [] cs).length ≤ 6002 := by
    have := PyProof.Rows.split_le (strL cs) (strL [32])
    rw [split_strL (by decide), List.length_map, strL_len] at this
    omega
  cases hw : splN 32 [] cs with
  | nil => exact absurd hw (splN_ne 32 cs [])
  | cons h r =>
    rw [hw] at hs hlen hl2
    have hr : ∀ w ∈ r, w.length ≤ 6000 := fun w hm => hlen w (List.mem_cons_of_mem _ hm)
    have hl3 : r.length ≤ 6002 := by simp at hl2; omega
    rw [List.map_cons, List.map_cons] at hs
    have lp := lc_plain (.str (strL cs)) (.str (strL h)) r hr hl3
    rw [show evW (h :: r) = if r.all numB = true then evF (strL h) (r.map valN) else none from rfl]
    by_cases ha : r.all numB = true
    · have li := lc_int4 (.str (strL cs)) (.str (strL h)) r ha hl3
      have hnl : (r.map valN).length ≤ 6002 := by rw [List.length_map]; exact hl3
      have ha2 : (r.map numB).all id = true := by rw [all_map_id]; exact ha
      rw [if_pos ha]
      clear hlen hl2 hw hr hl3 ha
      generalize (r.map strL).map D.str = Q at *
      generalize r.map numB = NB at *
      generalize r.map valN = ns at *
      generalize strL cs = T at *
      generalize strL h = H at *
      unfold m_read_event b_read_event fb_read_event evF
      walk_at "F"
      rw [hs]
      walk_at "F"
      rw [lp]
      walk_at "F"
      rw [ha2]
      walk_at "F"
      rw [li]
      by_cases f1 : H = "free"
      · have iv := isev_free ns (by omega)
        rw [if_pos f1]
        have f1' : decide (H = "free") = true := decide_eq_true f1
        generalize ns.map D.int = L at *
        walk_at "F"
        rw [f1']
        walk_at "F"
        rw [iv]
        generalize (isB8 ns && decide (0 < ns.length)) = b
        cases b with
        | true =>
          walk_at "F"
          rfl
        | false =>
          walk_at "F"
          rfl
      · have f1' : decide (H = "free") = false := decide_eq_false f1
        rw [if_neg f1]
        by_cases f2 : H = "item" ∨ H = "end"
        · have iv := isev_item H f2 ns
          rw [if_pos f2]
          have f2' : (decide (("item" : Str) = H) || decide (("end" : Str) = H)) = true := by rcases f2 with rfl | rfl <;> decide +kernel
          have hl5 : (ns.map D.int).length ≤ 999999 := by simp; omega
          generalize ns.map D.int = L at *
          walk_at "F"
          rw [f1']
          walk_at "F"
          rw [f2']
          walk_at "F"
          rw [allD_map]
          walk_at "F"
          rw [if_pos hl5]
          walk_at "F"
          rw [iv]
          generalize ns.isEmpty = b
          cases b with
          | true =>
            walk_at "F"
            rfl
          | false =>
            walk_at "F"
            rfl
        · have g1 : H ≠ "item" := fun e => f2 (.inl e)
          have g2 : H ≠ "end" := fun e => f2 (.inr e)
          have iv := isev_word H g1 g2 f1 (one22 ns)
          rw [if_neg f2]
          have f2' : (decide (("item" : Str) = H) || decide (("end" : Str) = H)) = false := by
            rw [decide_eq_false (fun e => g1 e.symm), decide_eq_false (fun e => g2 e.symm)]; rfl
          have one : (∀ n, ns ≠ [n]) → one22 ns = none := fun h => by
            match ns with
            | [] => rfl
            | [n] => exact absurd rfl (h n)
            | _ :: _ :: _ => rfl
          by_cases g3 : ∃ n, ns = [n]
          · obtain ⟨n, rfl⟩ := g3
            have iv : m_is_event [.d (.tup [.str H, .int n])] = .ok (.d (.bl (if H = "pick" then isN (one22 [n]) 255 else if H = "size" then isN (one22 [n]) 9 else false))) [.d (.tup [.str H, .int n])] := iv
            rw [show oD (one22 [n]) = .int n from rfl]
            generalize (if H = "pick" then isN (one22 [n]) 255 else if H = "size" then isN (one22 [n]) 9 else false) = b at *
            walk_at "F"
            rw [f1']
            walk_at "F"
            rw [f2']
            walk_at "F"
            rw [iv]
            cases b with
            | true =>
              walk_at "F"
              rfl
            | false =>
              walk_at "F"
              rfl
          · have o1 := one fun n e => g3 ⟨n, e⟩
            rw [o1] at iv ⊢
            have iv : m_is_event [.d (.tup [.str H, .non])] = .ok (.d (.bl (if H = "pick" then isN none 255 else if H = "size" then isN none 9 else false))) [.d (.tup [.str H, .non])] := iv
            rw [show oD none = .non from rfl]
            have hb : (if H = "pick" then isN none 255 else if H = "size" then isN none 9 else false) = false := by split <;> (try split) <;> rfl
            rw [hb] at iv ⊢
            have hn1 : decide ((((ns.map D.int).length : Nat) : Int) = 1) = false := decide_eq_false fun e => by
              rw [List.length_map] at e
              have e : ns.length = 1 := by omega
              obtain ⟨n, rfl⟩ := List.length_eq_one_iff.mp e
              exact g3 ⟨n, rfl⟩
            generalize ns.map D.int = L at *
            walk_at "F"
            rw [f1']
            walk_at "F"
            rw [f2']
            walk_at "F"
            rw [hn1]
            walk_at "F"
            rw [iv]
            walk_at "F"
            rfl
    · have ha2 : (r.map numB).all id = false := by rw [all_map_id]; simpa using ha
      rw [if_neg ha]
      clear hlen hl2 hw hr hl3 ha
      generalize (r.map strL).map D.str = Q at *
      generalize r.map numB = NB at *
      generalize strL cs = T at *
      generalize strL h = H at *
      unfold m_read_event b_read_event fb_read_event
      walk_at "F"
      rw [hs]
      walk_at "F"
      rw [lp]
      walk_at "F"
      rw [ha2]
      walk_at "F"
      rfl
theorem lc_lt (T W : D) (ns : List Int) (hl : ns.length ≤ 6002) : fLc (fIA (fVar 2)) (DL.gName 6) fYes (fOp (op2 gLtI) (fVar 6) (fC (.int 256))) [6] [some (.d T), some (.d W), some (.d (.lst (ns.map D.int))), none, none, none, none] = .ok (.d (.lst ((ns.map fun n => decide (n < 256)).map D.bl))) [some (.d T), some (.d W), some (.d (.lst (ns.map D.int))), none, none, none, none] := by
  have L := lc_map (fi := fIA (fVar 2)) (g := DL.gName 6) (fe := fOp (op2 gLtI) (fVar 6) (fC (.int 256))) (vs := [6]) (s := [some (.d T), some (.d W), some (.d (.lst (ns.map D.int))), none, none, none, none]) (s1 := [some (.d T), some (.d W), some (.d (.lst (ns.map D.int))), none, none, none, none]) (xs := ns.map D.int) (fun d => match d with | .int z => .bl (decide (z < 256)) | _ => .non) rfl (by walk_at "F") rfl (fun i hi sv e => by
    simp only [List.mem_cons, List.not_mem_nil, or_false] at hi
    subst hi
    simp at e) (by rw [List.length_map]; show _ ≤ 1000000; omega) (fun d hd => by
    obtain ⟨z, hz, rfl⟩ := List.mem_map.mp hd
    generalize ns.map D.int = Q
    refine ⟨[some (.d T), some (.d W), some (.d (.lst Q)), none, none, none, some (.d (.int z))], rfl, [some (.d T), some (.d W), some (.d (.lst Q)), none, none, none, some (.d (.int z))], ?_, rfl⟩
    show _ = Rs.ok (FV.d (.bl (decide (z < 256)))) _
    walk_at "F")
  rw [L, List.map_map, List.map_map]
  rfl
theorem good_eq (ns : List Int) (h : ∀ n ∈ ns, 0 ≤ n) : (isB8 ns && decide (0 < ns.length)) = (decide ((1 : Int) ≤ (ns.length : Int)) && (decide ((ns.length : Int) ≤ 8) && (ns.map fun n => decide (n < 256)).all id)) := by
  have e : (ns.all fun n => decide (0 ≤ n) && decide (n ≤ 255)) = (ns.map fun n => decide (n < 256)).all id := by
    rw [all_map_id]
    rw [Bool.eq_iff_iff, List.all_eq_true, List.all_eq_true]
    refine forall_congr' fun n => forall_congr' fun hn => ?_
    have := h n hn
    rw [Bool.and_eq_true, decide_eq_true_eq, decide_eq_true_eq, decide_eq_true_eq]
    omega
  unfold isB8
  have q1 : decide ((1 : Int) ≤ (ns.length : Int)) = decide (0 < ns.length) := decide_eq_decide.mpr (by omega)
  have q2 : decide ((ns.length : Int) ≤ 8) = decide (ns.length ≤ 8) := decide_eq_decide.mpr (by omega)
  rw [e, q1, q2]
  cases decide (0 < ns.length) <;> simp
abbrev MK : List Key := [.inr "pick", .inr "size"]
theorem disp22 (s : FS) : kDisp (fPairs [(fC (D.str "pick"), fC (D.int 255)), (fC (D.str "size"), fC (D.int 9))] s) = .ok (.d (.dct MK [.int 255, .int 9])) s := by
  have e1 : fPairs [(fC (D.str "pick"), fC (D.int 255)), (fC (D.str "size"), fC (D.int 9))] s = .ok [.tup [.str "pick", .int 255], .tup [.str "size", .int 9]] s := rfl
  have e2 : dctF [.tup [.str "pick", .int 255], .tup [.str "size", .int 9]] ([], []) = (MK, [.int 255, .int 9]) := by kernel_rfl
  rw [e1, c_disp1, e2]; rfl
theorem look_pick : lookK MK [.int 255, .int 9] (.inr "pick") = some (.int 255) := by kernel_rfl
theorem look_size : lookK MK [.int 255, .int 9] (.inr "size") = some (.int 9) := by kernel_rfl
theorem look_no {H : Str} (h1 : H ≠ "pick") (h2 : H ≠ "size") : lookK MK [.int 255, .int 9] (.inr H) = none := by
  simp only [lookK]
  rw [if_neg (fun e => h1 (by injection e with e; exact e.symm)), if_neg (fun e => h2 (by injection e with e; exact e.symm))]
theorem evof_ok {cs : List Nat} (h1 : ∀ c ∈ cs, c < 256) (h2 : cs.length ≤ 6000) : m__law_event_of [.d (.str (strL cs))] = .ok (.d ((evT cs).getD .non)) [.d (.str (strL cs))] := by
  have hs := gsplit_ok (sep := 32) (by decide) h1 h2
  have hsp : (" " : Str) = strL [32] := by decide +kernel
  rw [← hsp] at hs
  unfold evT
  have hlen : ∀ p ∈ splN 32 [] cs, p.length ≤ 6000 := fun p hp => by
    have := (splN_mem 32 cs [] p hp).2
    simp at this; omega
  have hl2 : (splN 32 [] cs).length ≤ 6002 := by
    have := PyProof.Rows.split_le (strL cs) (strL [32])
    rw [split_strL (by decide), List.length_map, strL_len] at this
    omega
  by_cases ht : strL cs = "item" ∨ strL cs = "end"
  · have ht' : (decide (("item" : Str) = strL cs) || decide (("end" : Str) = strL cs)) = true := by rcases ht with e | e <;> rw [e] <;> decide +kernel
    have hw : splN 32 [] cs = [cs] := by
      have q1 : ("item" : Str) = strL [105, 116, 101, 109] := by decide +kernel
      have q2 : ("end" : Str) = strL [101, 110, 100] := by decide +kernel
      rcases ht with e | e
      · rw [q1] at e; rw [strL_inj e]; decide
      · rw [q2] at e; rw [strL_inj e]; decide
    rw [hw] at hs ⊢
    have hf : strL cs ≠ "free" := by
      rcases ht with e | e <;> rw [e] <;> decide +kernel
    have hE : evW [cs] = some (.tup [.str (strL cs)]) := by
      show evF (strL cs) [] = _
      unfold evF
      rw [if_neg hf, if_pos ht]; rfl
    rw [hE]
    have hs : gSplit (strL cs) [.str " "] = some (.lst [.str (strL cs)]) := hs
    clear hE hw hl2 hlen h1 h2
    generalize strL cs = T at *
    unfold m__law_event_of b__law_event_of fb__law_event_of
    walk_at "F"
    rw [hs]
    walk_at "F"
    rw [ht']
    walk_at "F"
    rfl
  · have ht1 : strL cs ≠ "item" := fun e => ht (.inl e)
    have ht2 : strL cs ≠ "end" := fun e => ht (.inr e)
    have ht' : (decide (("item" : Str) = strL cs) || decide (("end" : Str) = strL cs)) = false := by
      rw [decide_eq_false (fun e => ht1 e.symm), decide_eq_false (fun e => ht2 e.symm)]; rfl
    cases hw : splN 32 [] cs with
    | nil => exact absurd hw (splN_ne 32 cs [])
    | cons h r =>
      have honly : r = [] → strL cs = strL h := fun e => by
        subst e
        have := splN_one 32 cs [] h hw
        rw [this]; rfl
      rw [hw] at hs hlen hl2
      have hr : ∀ w ∈ r, w.length ≤ 6000 := fun w hm => hlen w (List.mem_cons_of_mem _ hm)
      have hl3 : r.length ≤ 6002 := by simp at hl2; omega
      rw [List.map_cons, List.map_cons] at hs
      have lp := lc_so (.str (strL cs)) (.str (strL h)) r hr hl3
      rw [show evW (h :: r) = if r.all numB = true then evF (strL h) (r.map valN) else none from rfl]
      by_cases ha : r.all numB = true
      · have li := lc_int5 (.str (strL cs)) (.str (strL h)) r ha hl3
        have pos : ∀ n ∈ r.map valN, 0 ≤ n := fun n hn => by
          obtain ⟨w, hw, rfl⟩ := List.mem_map.mp hn
          exact (num_val (List.all_eq_true.mp ha w hw)).2.1
        have hnl : (r.map valN).length ≤ 6002 := by rw [List.length_map]; exact hl3
        have ha2 : (r.map numB).all id = true := by rw [all_map_id]; exact ha
        have honly : r.map valN = [] → strL cs = strL h := fun e => honly (List.map_eq_nil_iff.mp e)
        rw [if_pos ha]
        clear hlen hl2 hw hr hl3 ha
        generalize (r.map strL).map D.str = Q at *
        generalize r.map numB = NB at *
        generalize r.map valN = ns at *
        generalize strL cs = T at *
        generalize strL h = H at *
        unfold m__law_event_of b__law_event_of fb__law_event_of evF
        walk_at "F"
        rw [hs]
        walk_at "F"
        rw [ht']
        walk_at "F"
        rw [lp]
        walk_at "F"
        rw [ha2]
        walk_at "F"
        rw [li]
        by_cases f1 : H = "free"
        · rw [if_pos f1, good_eq ns pos]
          have f1' : decide (H = "free") = true := decide_eq_true f1
          have e1 : decide ((1 : Int) ≤ (((ns.map D.int).length : Nat) : Int)) = decide ((1 : Int) ≤ (ns.length : Int)) := by rw [List.length_map]
          have e8 : decide ((((ns.map D.int).length : Nat) : Int) ≤ 8) = decide ((ns.length : Int) ≤ 8) := by rw [List.length_map]
          have lt := lc_lt (.str T) (.lst (.str H :: Q)) ns hnl
          generalize ns.map D.int = L at *
          generalize decide ((1 : Int) ≤ (ns.length : Int)) = b1 at *
          generalize decide ((ns.length : Int) ≤ 8) = b8 at *
          generalize (ns.map fun n => decide (n < 256)) = BB at *
          walk_at "F"
          rw [f1']
          walk_at "F"
          rw [e1]
          cases b1 with
          | false =>
            walk_at "F"
            rfl
          | true =>
            walk_at "F"
            rw [e8]
            cases b8 with
            | false =>
              walk_at "F"
              rfl
            | true =>
              walk_at "F"
              rw [lt]
              walk_at "F"
              cases BB.all id with
              | false =>
                walk_at "F"
                rfl
              | true =>
                walk_at "F"
                rfl
        · have f1' : decide (H = "free") = false := decide_eq_false f1
          rw [if_neg f1]
          walk_at "F"
          rw [f1']
          walk_at "F"
          rw [disp22]
          have not_ie : lookK MK [.int 255, .int 9] (.inr H) ≠ none → ¬ (H = "item" ∨ H = "end") := fun h z => h (by rcases z with rfl | rfl <;> kernel_rfl)
          have main : ∀ (m : Int), lookK MK [.int 255, .int 9] (.inr H) = some (.int m) → (if H = "pick" then isN (one22 ns) 255 else if H = "size" then isN (one22 ns) 9 else false) = isN (one22 ns) m → finF [.d (.str T)] ((kAsg (DL.gName 4) (.ok (.d (.dct MK [.int 255, .int 9])) [some (.d (.str T)), some (.d (.lst (.str H :: Q))), some (.d (.lst (ns.map D.int))), none, none, none, none])).seq
              (sSeq (sIf (fOr (fTest (fOp (op2 (gDIn true)) (fOp (op2 gIx) (fVar 1) (fC (.int 0))) (fVar 4))) (fOr (fTest (fOp (op2 gNe) (fCB (opn gLen) (fCons (fVar 2) fNil)) (fC (.int 1)))) (fTest (fOp (op2 gGtI) (fOp (op2 gIx) (fVar 2) (fC (.int 0))) (fOp (op2 gDGet) (fVar 4) (fOp (op2 gIx) (fVar 1) (fC (.int 0)))))))) (sRet (fC .non)) sNext)
              (sRet (fTup (fCons (fOp (op2 gIx) (fVar 1) (fC (.int 0))) (fCons (fOp (op2 gIx) (fVar 2) (fC (.int 0))) fNil)))))) =
              .ok (.d ((if H = "item" ∨ H = "end" then if ns.isEmpty = true then some (.tup (.str H :: ns.map D.int)) else none else if (if H = "pick" then isN (one22 ns) 255 else if H = "size" then isN (one22 ns) 9 else false) = true then some (.tup [.str H, oD (one22 ns)]) else none).getD .non)) [.d (.str T)] := by
            intro m hm hif
            rw [if_neg (not_ie (by rw [hm]; simp)), hif]
            have hin : gDIn true (.str H) (.dct MK [.int 255, .int 9]) = some (.bl false) := by rw [vv_din, hm]; rfl
            have hget : gDGet (.dct MK [.int 255, .int 9]) (.str H) = some (.int m) := by rw [vv_dget_s, hm]
            match ns, pos with
            | [], _ =>
              rw [show isN (one22 []) m = false from rfl]
              generalize MK = MM at *
              walk_at "F"
              rw [hin]
              walk_at "F"
              rfl
            | [n], pos =>
              have p0 := pos n List.mem_cons_self
              rw [show isN (one22 [n]) m = (decide (0 ≤ n) && decide (n ≤ m)) from rfl, decide_eq_true p0, Bool.true_and, show oD (one22 [n]) = .int n from rfl]
              generalize MK = MM at *
              walk_at "F"
              rw [hin]
              walk_at "F"
              rw [hm]
              walk_at "F"
              by_cases hc : m < n
              · have hc2 : decide (n ≤ m) = false := decide_eq_false (by omega)
                rw [hc2]
                simp only [hc, decide_true]
                walk_at "F"
                rfl
              · have hc2 : decide (n ≤ m) = true := decide_eq_true (by omega)
                rw [hc2]
                simp only [hc, decide_false]
                walk_at "F"
                rfl
            | a :: b :: ns, _ =>
              have hn1 : decide (((((a :: b :: ns).map D.int).length : Nat) : Int) = 1) = false := decide_eq_false fun e => by simp at e; omega
              rw [show isN (one22 (a :: b :: ns)) m = false from rfl]
              generalize (a :: b :: ns).map D.int = L at *
              generalize MK = MM at *
              walk_at "F"
              rw [hin]
              walk_at "F"
              rw [hn1]
              walk_at "F"
              rfl
          by_cases g1 : H = "pick"
          · have hm := look_pick
            rw [← g1] at hm
            have := main 255 hm (by rw [if_pos g1])
            exact this
          · by_cases g2 : H = "size"
            · have hm := look_size
              rw [← g2] at hm
              have := main 9 hm (by rw [if_neg g1, if_pos g2])
              exact this
            · have hn := look_no g1 g2
              have hin : gDIn true (.str H) (.dct MK [.int 255, .int 9]) = some (.bl true) := by rw [vv_din, hn]; rfl
              rw [if_neg g1, if_neg g2]
              have hE : (if H = "item" ∨ H = "end" then if ns.isEmpty = true then some (.tup (.str H :: ns.map D.int)) else none else if false = true then some (.tup [.str H, oD (one22 ns)]) else none : Option D) = none := by
                by_cases z : H = "item" ∨ H = "end"
                · rw [if_pos z]
                  by_cases z2 : ns = []
                  · have := honly z2
                    rw [← this] at z
                    exact absurd z ht
                  · rw [if_neg (by simpa using z2)]
                · rw [if_neg z, if_neg (by simp)]
              rw [hE]
              generalize MK = MM at *
              generalize ns.map D.int = L at *
              walk_at "F"
              rw [hin]
              walk_at "F"
              rfl
      · have ha2 : (r.map numB).all id = false := by rw [all_map_id]; simpa using ha
        rw [if_neg ha]
        clear hlen hl2 hw hr hl3 ha honly
        generalize (r.map strL).map D.str = Q at *
        generalize r.map numB = NB at *
        generalize strL cs = T at *
        generalize strL h = H at *
        unfold m__law_event_of b__law_event_of fb__law_event_of
        walk_at "F"
        rw [hs]
        walk_at "F"
        rw [ht']
        walk_at "F"
        rw [lp]
        walk_at "F"
        rw [ha2]
        walk_at "F"
        rfl
theorem sln (a b : Str) : (a ++ b).length = a.length + b.length := by
  rw [strL_of a, strL_of b, strL_app, strL_len, strL_len, strL_len, List.length_append]
theorem join_ok (z : Str) (c : Nat) (hz : z = strL [c]) (xs : List (List Nat)) (h : (xs.map (·.length)).sum + xs.length ≤ 1000000) : gJoin (.str z) [.lst (xs.map fun x => .str (strL x))] = some (.str (strL (joinN c xs))) := by
  subst hz
  have e1 : strsOf (xs.map fun x => D.str (strL x)) = some (xs.map strL) := by
    have := DL.strsOf_map (xs.map strL)
    rw [List.map_map] at this
    exact this
  have e2 : ((xs.map strL).map (·.length)).sum + (xs.map strL).length * (strL [c]).length ≤ most := by
    rw [List.map_map, List.length_map, strL_len]
    have : (xs.map (Str.length ∘ strL)) = xs.map (·.length) := List.map_congr_left fun x _ => strL_len x
    rw [this]
    simp only [List.length_cons, List.length_nil]
    exact Nat.le_trans (by omega) (show 1000000 ≤ most from Nat.le_refl _)
  unfold gJoin
  simp only [seqD, e1]
  rw [if_pos e2, join_strL]
theorem join_ok22 (xs : List (List Nat)) (h : (xs.map (·.length)).sum + xs.length ≤ 1000000) : gJoin (.str " ") [.lst ((xs.map strL).map D.str)] = some (.str (strL (joinN 32 xs))) := by
  rw [List.map_map]
  exact join_ok " " 32 (by decide +kernel) xs h
/-- an event as data -/
inductive Ev where
  | free (bs : List Int)
  | pick (n : Int)
  | size (n : Int)
  | item
  | fin
def Ev.enc : Ev → D
  | .free bs => .tup [.str "free", .tup (bs.map D.int)]
  | .pick n => .tup [.str "pick", .int n]
  | .size n => .tup [.str "size", .int n]
  | .item => .tup [.str "item"]
  | .fin => .tup [.str "end"]
structure FreeOk (bs : List Int) : Prop where
  l1 : 1 ≤ bs.length
  l8 : bs.length ≤ 8
  b : ∀ b ∈ bs, 0 ≤ b ∧ b ≤ 255
def Ev.Ok : Ev → Prop
  | .free bs => FreeOk bs
  | .pick n => 0 ≤ n ∧ n ≤ 255
  | .size n => 0 ≤ n ∧ n ≤ 9
  | .item => True
  | .fin => True
def Ev.words : Ev → List (List Nat)
  | .free bs => cpsS "free" :: bs.map dgI
  | .pick n => [cpsS "pick", dgI n]
  | .size n => [cpsS "size", dgI n]
  | .item => [cpsS "item"]
  | .fin => [cpsS "end"]
def Ev.text (e : Ev) : List Nat := joinN 32 e.words
theorem dg_digits {i : Int} (h0 : 0 ≤ i) (h1 : i ≤ 999) : (dgI i).length ≤ 3 ∧ ∀ c ∈ dgI i, 48 ≤ c ∧ c ≤ 57 := by
  have := dg_num h0 h1
  unfold numB at this
  simp only [Bool.and_eq_true, decide_eq_true_eq, List.all_eq_true, digitC] at this
  exact ⟨this.1.1.2, fun c hc => by simpa using this.1.2 c hc⟩
theorem dg_sum : ∀ bs : List Int, (∀ b ∈ bs, 0 ≤ b ∧ b ≤ 255) → ((bs.map dgI).map (·.length)).sum ≤ 3 * bs.length
  | [], _ => by simp
  | b :: bs, h => by
    have h1 := dg_sum bs fun c hc => h c (List.mem_cons_of_mem _ hc)
    have h2 := (dg_digits (h b List.mem_cons_self).1 (by have := (h b List.mem_cons_self).2; omega)).1
    simp only [List.map_cons, List.sum_cons, List.length_cons] at *
    omega
theorem words_ok (e : Ev) (h : e.Ok) : ∃ w r, e.words = w :: r ∧ (∀ x ∈ w :: r, ∀ c ∈ x, c ≠ 32 ∧ c < 256) ∧ (((w :: r).map (·.length)).sum + (w :: r).length ≤ 60) := by
  have dig : ∀ i : Int, 0 ≤ i → i ≤ 999 → ∀ c ∈ dgI i, c ≠ 32 ∧ c < 256 := fun i h0 h1 c hc => by
    have := (dg_digits h0 h1).2 c hc; omega
  have lit : ∀ x ∈ [cpsS "free", cpsS "pick", cpsS "size", cpsS "item", cpsS "end"], (∀ c ∈ x, c ≠ 32 ∧ c < 256) ∧ x.length ≤ 4 := by decide +kernel
  cases e with
  | free bs =>
    refine ⟨_, _, rfl, fun x hx => ?_, ?_⟩
    · rcases List.mem_cons.mp hx with rfl | hx
      · exact (lit _ (by simp)).1
      · obtain ⟨b, hb, rfl⟩ := List.mem_map.mp hx
        have := h.b b hb
        exact dig b this.1 (by omega)
    · have h1 := dg_sum bs h.b
      have h2 := (lit (cpsS "free") (by simp)).2
      have h3 := h.l8
      simp only [List.map_cons, List.sum_cons, List.length_cons, List.length_map] at *
      omega
  | pick n =>
    refine ⟨_, _, rfl, fun x hx => ?_, ?_⟩
    · simp only [List.mem_cons, List.not_mem_nil, or_false] at hx
      rcases hx with rfl | rfl
      · exact (lit _ (by simp)).1
      · exact dig n h.1 (by have := h.2; omega)
    · have h2 := (lit (cpsS "pick") (by simp)).2
      have h3 := (dg_digits h.1 (by have := h.2; omega)).1
      simp only [List.map_cons, List.sum_cons, List.length_cons, List.map_nil, List.sum_nil, List.length_nil] at *
      omega
  | size n =>
    refine ⟨_, _, rfl, fun x hx => ?_, ?_⟩
    · simp only [List.mem_cons, List.not_mem_nil, or_false] at hx
      rcases hx with rfl | rfl
      · exact (lit _ (by simp)).1
      · exact dig n h.1 (by have := h.2; omega)
    · have h2 := (lit (cpsS "size") (by simp)).2
      have h3 := (dg_digits h.1 (by have := h.2; omega)).1
      simp only [List.map_cons, List.sum_cons, List.length_cons, List.map_nil, List.sum_nil, List.length_nil] at *
      omega
  | item => exact ⟨_, _, rfl, fun x hx => by rw [List.mem_singleton.mp hx]; exact (lit _ (by simp)).1, by decide +kernel⟩
  | fin => exact ⟨_, _, rfl, fun x hx => by rw [List.mem_singleton.mp hx]; exact (lit _ (by simp)).1, by decide +kernel⟩
theorem joinN_len (sep : Nat) : ∀ xs : List (List Nat), (joinN sep xs).length ≤ (xs.map (·.length)).sum + xs.length
  | [] => by simp [joinN]
  | [x] => by simp [joinN]
  | x :: y :: xs => by
    have := joinN_len sep (y :: xs)
    rw [joinN]
    simp only [List.length_append, List.length_cons, List.map_cons, List.sum_cons] at *
    omega
theorem joinN_mem (sep : Nat) : ∀ (xs : List (List Nat)) (c : Nat), c ∈ joinN sep xs → c = sep ∨ ∃ x ∈ xs, c ∈ x
  | [], c, h => by simp [joinN] at h
  | [x], c, h => .inr ⟨x, List.mem_cons_self, h⟩
  | x :: y :: xs, c, h => by
    rw [joinN] at h
    rcases List.mem_append.mp h with h | h
    · exact .inr ⟨x, List.mem_cons_self, h⟩
    · rcases List.mem_cons.mp h with h | h
      · exact .inl h
      · rcases joinN_mem sep (y :: xs) c h with h | ⟨z, hz, h⟩
        · exact .inl h
        · exact .inr ⟨z, List.mem_cons_of_mem _ hz, h⟩
theorem text_small (e : Ev) (h : e.Ok) : (∀ c ∈ e.text, c < 256) ∧ e.text.length ≤ 60 := by
  obtain ⟨w, r, e1, h1, h2⟩ := words_ok e h
  unfold Ev.text
  rw [e1]
  refine ⟨fun c hc => ?_, Nat.le_trans (joinN_len 32 _) h2⟩
  rcases joinN_mem 32 _ c hc with rfl | ⟨x, hx, hc⟩
  · decide
  · exact (h1 x hx c hc).2
theorem all_num (bs : List Int) (h : ∀ b ∈ bs, 0 ≤ b ∧ b ≤ 255) : (bs.map dgI).all numB = true ∧ (bs.map dgI).map valN = bs := by
  constructor
  · rw [List.all_map, List.all_eq_true]
    exact fun b hb => dg_num (h b hb).1 (by have := (h b hb).2; omega)
  · rw [List.map_map]
    conv => rhs; rw [← List.map_id bs]
    exact List.map_congr_left fun b hb => val_dg (h b hb).1 (by have := (h b hb).2; omega)
theorem evT_text (e : Ev) (h : e.Ok) : evT e.text = some e.enc := by
  obtain ⟨w, r, e1, h1, h2⟩ := words_ok e h
  unfold evT Ev.text
  rw [e1, splN_join 32 w r (fun x hx z => (h1 x hx 32 z).1 rfl), ← e1]
  have lits : strL (cpsS "free") = "free" ∧ strL (cpsS "pick") = "pick" ∧ strL (cpsS "size") = "size" ∧ strL (cpsS "item") = "item" ∧ strL (cpsS "end") = "end" := ⟨(strL_of _).symm, (strL_of _).symm, (strL_of _).symm, (strL_of _).symm, (strL_of _).symm⟩
  obtain ⟨l1, l2, l3, l4, l5⟩ := lits
  cases e with
  | free bs =>
    obtain ⟨q1, q2⟩ := all_num bs h.b
    show (if (bs.map dgI).all numB = true then evF (strL (cpsS "free")) ((bs.map dgI).map valN) else none) = _
    rw [if_pos q1, q2, l1]
    unfold evF
    rw [if_pos rfl, if_pos]
    · rfl
    · have a1 := h.l1
      have a8 := h.l8
      unfold isB8
      rw [decide_eq_true a8, decide_eq_true (show 0 < bs.length by omega), Bool.true_and, Bool.and_true, List.all_eq_true]
      intro b hb
      have := h.b b hb
      simp; exact this
  | pick n =>
    have q := dg_num h.1 (by have := h.2; omega : n ≤ 999)
    show (if ([dgI n]).all numB = true then evF (strL (cpsS "pick")) [valN (dgI n)] else none) = _
    rw [if_pos (by simp [q]), val_dg h.1 (by have := h.2; omega), l2]
    unfold evF
    rw [if_neg (by decide +kernel), if_neg (by decide +kernel), if_pos rfl, if_pos (by show (decide (0 ≤ n) && decide (n ≤ 255)) = true; rw [decide_eq_true h.1, decide_eq_true h.2]; rfl)]
    rfl
  | size n =>
    have q := dg_num h.1 (by have := h.2; omega : n ≤ 999)
    show (if ([dgI n]).all numB = true then evF (strL (cpsS "size")) [valN (dgI n)] else none) = _
    rw [if_pos (by simp [q]), val_dg h.1 (by have := h.2; omega), l3]
    unfold evF
    rw [if_neg (by decide +kernel), if_neg (by decide +kernel), if_neg (show ¬ (("size" : Str) = "pick") by decide +kernel), if_pos rfl, if_pos (by show (decide (0 ≤ n) && decide (n ≤ 9)) = true; rw [decide_eq_true h.1, decide_eq_true h.2]; rfl)]
    rfl
  | item =>
    show evF (strL (cpsS "item")) [] = _
    rw [l4]; unfold evF
    rw [if_neg (by decide +kernel), if_pos (.inl rfl)]; rfl
  | fin =>
    show evF (strL (cpsS "end")) [] = _
    rw [l5]; unfold evF
    rw [if_neg (by decide +kernel), if_pos (.inr rfl)]; rfl
theorem lc_strs (F : D) (bs : List Int) (hb : ∀ b ∈ bs, 0 ≤ b ∧ b ≤ 255) (hl : bs.length ≤ 8) (rest : FS) (hrest : rest = [none] ∨ rest = [none, none]) : fLc (fIA (fOp (op2 gIx) (fVar 0) (fC (.int 1)))) (DL.gName 1) fYes (fCB (opn gStrI) (fCons (fVar 1) fNil)) [1] (some (.d (.tup [F, .tup (bs.map D.int)])) :: rest) = .ok (.d (.lst (((bs.map dgI).map strL).map D.str))) (some (.d (.tup [F, .tup (bs.map D.int)])) :: rest) := by
  have L := lc_map (fi := fIA (fOp (op2 gIx) (fVar 0) (fC (.int 1)))) (g := DL.gName 1) (fe := fCB (opn gStrI) (fCons (fVar 1) fNil)) (vs := [1]) (s := some (.d (.tup [F, .tup (bs.map D.int)])) :: rest) (s1 := some (.d (.tup [F, .tup (bs.map D.int)])) :: rest) (xs := bs.map D.int) (fun d => match d with | .int z => .str (strL (dgI z)) | _ => .non) (by rcases hrest with rfl | rfl <;> rfl) (by
      generalize bs.map D.int = Q
      walk_at "F") rfl (fun i hi sv e => by
    simp only [List.mem_cons, List.not_mem_nil, or_false] at hi
    subst hi
    rcases hrest with rfl | rfl <;> simp at e) (by rw [List.length_map]; show _ ≤ 1000000; omega) (fun d hd => by
    obtain ⟨z, hz, rfl⟩ := List.mem_map.mp hd
    have i1 : -1000000000 < z := by have := (hb z hz).1; omega
    have i2 : z < 1000000000 := by have := (hb z hz).2; omega
    generalize bs.map D.int = Q
    rcases hrest with rfl | rfl
    · refine ⟨[some (.d (.tup [F, .tup Q])), some (.d (.int z))], rfl, [some (.d (.tup [F, .tup Q])), some (.d (.int z))], ?_, rfl⟩
      show _ = Rs.ok (FV.d (.str (strL (dgI z)))) _
      rw [← str_dg]
      walk_at "F"
      simp only [i1, if_true, decide_true]
      try walk_at "F"
      simp only [i2, if_true, decide_true]
      try walk_at "F"
      try rfl
    · refine ⟨[some (.d (.tup [F, .tup Q])), some (.d (.int z)), none], rfl, [some (.d (.tup [F, .tup Q])), some (.d (.int z)), none], ?_, rfl⟩
      show _ = Rs.ok (FV.d (.str (strL (dgI z)))) _
      rw [← str_dg]
      walk_at "F"
      simp only [i1, if_true, decide_true]
      try walk_at "F"
      simp only [i2, if_true, decide_true]
      try walk_at "F"
      try rfl)
  rw [L, List.map_map, List.map_map, List.map_map]
  simp [Function.comp_def]
theorem lits22 : Str.empty = strL [] ∧ Str.ofString "free " = strL (cpsS "free" ++ [32]) ∧ Str.ofString " " = strL [32] ∧ Str.ofString "pick" = strL (cpsS "pick") ∧ Str.ofString "size" = strL (cpsS "size") ∧ Str.ofString "free" = strL (cpsS "free") ∧ Str.ofString "item" = strL (cpsS "item") ∧ Str.ofString "end" = strL (cpsS "end") := by decide +kernel
theorem event_text_ok (e : Ev) (h : e.Ok) : m_event_text [.d e.enc] = .ok (.d (.str (strL e.text))) [.d e.enc] := by
  obtain ⟨l0, l1, l2, l3, l4, l5, l6, l7⟩ := lits22
  unfold m_event_text b_event_text fb_event_text
  cases e with
  | free bs =>
    have L := lc_strs (.str "free") bs h.b h.l8 [none] (.inl rfl)
    have J := join_ok22 (bs.map dgI) (by have := dg_sum bs h.b; have := h.l8; rw [List.length_map]; omega)
    have hne : ∃ a r, bs.map dgI = a :: r := by
      have := h.l1
      cases bs with
      | nil => simp at this
      | cons a r => exact ⟨_, _, rfl⟩
    have hT : strL (Ev.text (.free bs)) = Str.empty ++ Str.ofString "free " ++ strL (joinN 32 (bs.map dgI)) := by
      obtain ⟨a, r, e⟩ := hne
      unfold Ev.text
      simp only [Ev.words, l0, l1, strL_app, e, joinN]
      simp
    have hlen := (text_small (.free bs) h).2
    have hlen2 := congrArg Str.length hT
    simp only [sln, strL_len] at hlen2
    have h1 : (Str.empty ++ Str.ofString "free ").length ≤ 1000000 := by simp only [sln]; omega
    have h2 : (Str.empty ++ Str.ofString "free " ++ strL (joinN 32 (bs.map dgI))).length ≤ 1000000 := by simp only [sln, strL_len]; omega
    rw [hT]
    clear hT hlen hlen2 hne h l0 l1 l2 l3 l4 l5 l6 l7
    rw [show Ev.enc (.free bs) = .tup [.str "free", .tup (bs.map D.int)] from rfl]
    generalize ((bs.map dgI).map strL).map D.str = B at *
    generalize strL (joinN 32 (bs.map dgI)) = JS at *
    generalize bs.map D.int = I at *
    walk_at "F"
    rw [L]
    try walk_at "F"
    rw [J]
    try walk_at "F"
    simp only [h1, if_true, decide_true]
    try walk_at "F"
    simp only [h2, if_true, decide_true]
    try walk_at "F"
    try rfl
  | pick n =>
    have i1 : -1000000000 < n := by have := h.1; omega
    have i2 : n < 1000000000 := by have := h.2; omega
    have hT : strL (Ev.text (.pick n)) = Str.empty ++ Str.ofString "pick" ++ Str.ofString " " ++ Str.ofString (toString n) := by
      unfold Ev.text
      simp only [Ev.words, l0, l2, l3, str_dg, strL_app, joinN]
      simp
    have hlen := (text_small (.pick n) h).2
    have hlen2 := congrArg Str.length hT
    simp only [sln, strL_len] at hlen2
    have h1 : (Str.empty ++ Str.ofString "pick").length ≤ 1000000 := by simp only [sln]; omega
    have h2 : (Str.empty ++ Str.ofString "pick" ++ Str.ofString " ").length ≤ 1000000 := by simp only [sln]; omega
    have h3 : (Str.empty ++ Str.ofString "pick" ++ Str.ofString " " ++ Str.ofString (toString n)).length ≤ 1000000 := by simp only [sln]; omega
    rw [hT]
    clear hT hlen hlen2 h l0 l1 l2 l3 l4 l5 l6 l7
    unfold Ev.enc
    walk_at "F"
    simp only [i1, if_true, decide_true]
    try walk_at "F"
    simp only [i2, if_true, decide_true]
    try walk_at "F"
    simp only [h1, if_true, decide_true]
    try walk_at "F"
    simp only [h2, if_true, decide_true]
    try walk_at "F"
    simp only [h3, if_true, decide_true]
    try walk_at "F"
    try rfl
  | size n =>
    have i1 : -1000000000 < n := by have := h.1; omega
    have i2 : n < 1000000000 := by have := h.2; omega
    have hT : strL (Ev.text (.size n)) = Str.empty ++ Str.ofString "size" ++ Str.ofString " " ++ Str.ofString (toString n) := by
      unfold Ev.text
      simp only [Ev.words, l0, l2, l4, str_dg, strL_app, joinN]
      simp
    have hlen := (text_small (.size n) h).2
    have hlen2 := congrArg Str.length hT
    simp only [sln, strL_len] at hlen2
    have h1 : (Str.empty ++ Str.ofString "size").length ≤ 1000000 := by simp only [sln]; omega
    have h2 : (Str.empty ++ Str.ofString "size" ++ Str.ofString " ").length ≤ 1000000 := by simp only [sln]; omega
    have h3 : (Str.empty ++ Str.ofString "size" ++ Str.ofString " " ++ Str.ofString (toString n)).length ≤ 1000000 := by simp only [sln]; omega
    rw [hT]
    clear hT hlen hlen2 h l0 l1 l2 l3 l4 l5 l6 l7
    unfold Ev.enc
    walk_at "F"
    simp only [i1, if_true, decide_true]
    try walk_at "F"
    simp only [i2, if_true, decide_true]
    try walk_at "F"
    simp only [h1, if_true, decide_true]
    try walk_at "F"
    simp only [h2, if_true, decide_true]
    try walk_at "F"
    simp only [h3, if_true, decide_true]
    try walk_at "F"
    try rfl
  | item =>
    rw [show strL (Ev.text .item) = Str.ofString "item" from l6.symm]
    clear h l0 l1 l2 l3 l4 l5 l6 l7
    unfold Ev.enc
    walk_at "F"
    try rfl
  | fin =>
    rw [show strL (Ev.text .fin) = Str.ofString "end" from l7.symm]
    clear h l0 l1 l2 l3 l4 l5 l6 l7
    unfold Ev.enc
    walk_at "F"
    try rfl
theorem lc_one (xs ys : List Str) (ds : List D) (hx : ∀ d ∈ ds, (∃ x, d = .str x) ∨ ∃ i, d = .int i ∧ 0 ≤ i ∧ i ≤ 999) (hl : ds.length ≤ 8) : fLc (fIA (fVar 0)) (DL.gName 2) fYes (fCB (opn gStrI) (fCons (fVar 2) fNil)) [2] [some (.d (.tup ds)), none, none] = .ok (.d (.lst (ds.map fun d => match d with | .int z => .str (strL (dgI z)) | d => d))) [some (.d (.tup ds)), none, none] :=
  lc_map (fi := fIA (fVar 0)) (g := DL.gName 2) (fe := fCB (opn gStrI) (fCons (fVar 2) fNil)) (vs := [2]) (s := [some (.d (.tup ds)), none, none]) (s1 := [some (.d (.tup ds)), none, none]) (xs := ds) (fun d => match d with | .int z => .str (strL (dgI z)) | d => d) rfl (by walk_at "F") rfl (fun i hi sv e => by
    simp only [List.mem_cons, List.not_mem_nil, or_false] at hi
    subst hi
    simp at e) (by show _ ≤ 1000000; omega) (fun d hd => by
    refine ⟨[some (.d (.tup ds)), none, some (.d d)], rfl, [some (.d (.tup ds)), none, some (.d d)], ?_, rfl⟩
    rcases hx d hd with ⟨x, rfl⟩ | ⟨i, rfl, h0, h1⟩
    · walk_at "F"
      try rfl
    · have i1 : -1000000000 < i := by omega
      have i2 : i < 1000000000 := by omega
      show _ = Rs.ok (FV.d (.str (strL (dgI i)))) _
      rw [← str_dg]
      walk_at "F"
      simp only [i1, if_true, decide_true]
      try walk_at "F"
      simp only [i2, if_true, decide_true]
      try walk_at "F"
      try rfl)
theorem law_event_text_ok (e : Ev) (h : e.Ok) : m__law_event_text [.d e.enc] = .ok (.d (.str (strL e.text))) [.d e.enc] := by
  obtain ⟨l0, l1, l2, l3, l4, l5, l6, l7⟩ := lits22
  have sh : ∀ (H : Str) (n : Int), (H = "pick" ∨ H = "size") → 0 ≤ n → n ≤ 255 → m__law_event_text [.d (.tup [.str H, .int n])] = .ok (.d (.str (strL (joinN 32 [H.cps.toList, dgI n])))) [.d (.tup [.str H, .int n])] := fun H n hH h0 h1 => by
    have L := lc_one [] [] [.str H, .int n] (fun d hd => by
      simp only [List.mem_cons, List.not_mem_nil, or_false] at hd
      rcases hd with rfl | rfl
      · exact .inl ⟨_, rfl⟩
      · exact .inr ⟨_, rfl, h0, by omega⟩) (by simp)
    have L : fLc (fIA (fVar 0)) (DL.gName 2) fYes (fCB (opn gStrI) (fCons (fVar 2) fNil)) [2] [some (.d (.tup [.str H, .int n])), none, none] = .ok (.d (.lst ((([H.cps.toList, dgI n]).map strL).map D.str))) [some (.d (.tup [.str H, .int n])), none, none] := by
      rw [L]; simp
    have hHl : H.cps.toList.length = 4 := by rcases hH with rfl | rfl <;> decide +kernel
    have J := join_ok22 [H.cps.toList, dgI n] (by have := (dg_digits h0 (by omega : n ≤ 999)).1; simp only [List.map_cons, List.map_nil, List.sum_cons, List.sum_nil, List.length_cons, List.length_nil]; omega)
    have f1 : decide (H = "free") = false := by rcases hH with rfl | rfl <;> decide +kernel
    unfold m__law_event_text b__law_event_text fb__law_event_text
    generalize (([H.cps.toList, dgI n]).map strL).map D.str = B at *
    generalize strL (joinN 32 [H.cps.toList, dgI n]) = JS at *
    walk_at "F"
    rw [f1]
    try walk_at "F"
    rw [L]
    try walk_at "F"
    rw [J]
    try walk_at "F"
    try rfl
  have s1 : ∀ (H : Str), (H = "item" ∨ H = "end") → m__law_event_text [.d (.tup [.str H])] = .ok (.d (.str (strL (joinN 32 [H.cps.toList])))) [.d (.tup [.str H])] := fun H hH => by
    have L := lc_one [] [] [.str H] (fun d hd => by
      simp only [List.mem_cons, List.not_mem_nil, or_false] at hd
      subst hd
      exact .inl ⟨_, rfl⟩) (by simp)
    have L : fLc (fIA (fVar 0)) (DL.gName 2) fYes (fCB (opn gStrI) (fCons (fVar 2) fNil)) [2] [some (.d (.tup [.str H])), none, none] = .ok (.d (.lst ((([H.cps.toList]).map strL).map D.str))) [some (.d (.tup [.str H])), none, none] := by
      rw [L]; simp
    have hHl : H.cps.toList.length ≤ 4 := by rcases hH with rfl | rfl <;> decide +kernel
    have J := join_ok22 [H.cps.toList] (by simp only [List.map_cons, List.map_nil, List.sum_cons, List.sum_nil, List.length_cons, List.length_nil]; omega)
    have f1 : decide (H = "free") = false := by rcases hH with rfl | rfl <;> decide +kernel
    unfold m__law_event_text b__law_event_text fb__law_event_text
    generalize (([H.cps.toList]).map strL).map D.str = B at *
    generalize strL (joinN 32 [H.cps.toList]) = JS at *
    walk_at "F"
    rw [f1]
    try walk_at "F"
    rw [L]
    try walk_at "F"
    rw [J]
    try walk_at "F"
    try rfl
  cases e with
  | free bs =>
    have L := lc_strs (.str "free") bs h.b h.l8 [none, none] (.inr rfl)
    have J := join_ok22 (cpsS "free" :: bs.map dgI) (by
      have q1 := dg_sum bs h.b
      have q2 := h.l8
      have q3 : (cpsS "free").length = 4 := by decide +kernel
      simp only [List.map_cons, List.sum_cons, List.length_cons, List.length_map] at *
      omega)
    rw [List.map_cons, List.map_cons, ← l5] at J
    have hL : ((bs.map dgI).map strL).length ≤ 8 := by rw [List.length_map, List.length_map]; exact h.l8
    have hA : 1 + (((bs.map dgI).map strL).map D.str).length ≤ 1000000 := by simp; have := h.l8; omega
    show m__law_event_text [.d (.tup [.str "free", .tup (bs.map D.int)])] = .ok (.d (.str (strL (joinN 32 (cpsS "free" :: bs.map dgI))))) [.d (.tup [.str "free", .tup (bs.map D.int)])]
    unfold m__law_event_text b__law_event_text fb__law_event_text
    clear h l0 l1 l2 l3 l4 l5 l6 l7 sh s1
    generalize ((bs.map dgI).map strL).map D.str = B at *
    generalize strL (joinN 32 (cpsS "free" :: bs.map dgI)) = JS at *
    generalize bs.map D.int = I at *
    walk_at "F"
    rw [L]
    try walk_at "F"
    simp only [hA, if_true, decide_true]
    try walk_at "F"
    rw [J]
    try walk_at "F"
    try rfl
  | pick n => exact sh "pick" n (.inl rfl) h.1 h.2
  | size n => exact sh "size" n (.inr rfl) h.1 (by have := h.2; omega)
  | item => exact s1 "item" (.inl rfl)
  | fin => exact s1 "end" (.inr rfl)
theorem wipeF_at : ∀ (vs : List Nat) (s : FS) (i : Nat), (wipeF s vs)[i]? = if i ∈ vs ∧ i < s.length then some none else s[i]?
  | [], s, i => by simp [wipeF]
  | v :: vs, s, i => by
    show ((wipeF s vs).set v none)[i]? = _
    rw [List.getElem?_set, wipeF_at vs s i, wipeF_len]
    by_cases e : v = i
    · subst e
      by_cases l : v < s.length
      · simp [l]
      · simp [l, List.getElem?_eq_none (Nat.le_of_not_lt l)]
    · have : (i ∈ v :: vs) ↔ i ∈ vs := by simp [Ne.symm e]
      rw [if_neg e]
      simp only [this]
/-- what a comprehension leaves is told by the other slots -/
theorem restF_wipe (s0 s : FS) (vs : List Nat) (hl : s.length = s0.length) : restF s0 (wipeF s vs) vs = restF s0 s vs := by
  have key : ∀ (ws : List Nat) (s t : FS), s.length = t.length → (∀ i, i ∉ ws → s[i]? = t[i]?) → restF s0 s ws = restF s0 t ws := by
    intro ws
    induction ws with
    | nil => intro s t _ h; exact List.ext_getElem? fun i => h i (by simp)
    | cons w ws ih =>
      intro s t hl h
      show (restF s0 s ws).set w _ = (restF s0 t ws).set w _
      have e : restF s0 (s.set w none) ws = restF s0 (t.set w none) ws := ih _ _ (by simp [hl]) fun i hi => by
        rw [List.getElem?_set, List.getElem?_set, hl]
        by_cases e : w = i
        · simp [e]
        · rw [if_neg e, if_neg e]; exact h i (by simp [hi, Ne.symm e])
      have sw : ∀ u : FS, (restF s0 u ws).set w (keepD s0[w]?) = (restF s0 (u.set w none) ws).set w (keepD s0[w]?) := fun u => by
        apply List.ext_getElem?
        intro i
        rw [List.getElem?_set, List.getElem?_set, restF_len, restF_len, List.length_set]
        by_cases e : w = i
        · simp [e]
        · rw [if_neg e, if_neg e]
          have : ∀ (ws : List Nat) (u v : FS), u.length = v.length → u[i]? = v[i]? → (restF s0 u ws)[i]? = (restF s0 v ws)[i]? := by
            intro ws
            induction ws with
            | nil => intro u v _ h; exact h
            | cons x ws ih =>
              intro u v hl h
              show ((restF s0 u ws).set x _)[i]? = ((restF s0 v ws).set x _)[i]?
              rw [List.getElem?_set, List.getElem?_set, restF_len, restF_len, hl, ih u v hl h]
          exact this ws _ _ (by simp) (by rw [List.getElem?_set, if_neg e])
      rw [sw s, sw t, e]
  refine key vs _ _ (by rw [wipeF_len]) fun i hi => ?_
  rw [wipeF_at, if_neg (fun z => hi z.1)]
section
variable {g : FG} {fe : FE} {ft : FT} {vs : List Nat}
theorem lcL_inv (I : List D → FS → Prop) : ∀ (xs acc : List D) (s : FS), acc.length + xs.length ≤ most → I acc (wipeF s vs) → (∀ x ∈ xs, ∀ acc W, I acc W → ∃ s1, g (.d x) W = some s1 ∧ ∃ y s3, fe s1 = .ok (.d y) s3 ∧ s3.length = W.length ∧ I (acc ++ [y]) (wipeF s3 vs)) → ∃ ys s', fLcL g fYes fe vs xs acc s = .ok ys s' ∧ s'.length = s.length ∧ I ys (wipeF s' vs)
  | [], acc, s, _, h, _ => ⟨acc, s, rfl, rfl, h⟩
  | x :: xs, acc, s, hl, h, st => by
    obtain ⟨s1, e1, y, s3, e3, l3, h3⟩ := st x List.mem_cons_self acc (wipeF s vs) h
    rw [List.length_cons] at hl
    obtain ⟨ys, s', e', l', h'⟩ := lcL_inv I xs (acc ++ [y]) s3 (by simp; omega) h3 fun z hz => st z (List.mem_cons_of_mem _ hz)
    refine ⟨ys, s', ?_, by rw [l', l3, wipeF_len], h'⟩
    show (match g (.d x) (wipeF s vs) with
      | none => Rs.bad
      | some fs1 => (fYes fs1).noEx fun b fs2 => if b = true then (fe fs2).noEx fun v fs3 => match v with
          | .d y => if acc.length < most then fLcL g fYes fe vs xs (acc ++ [y]) fs3 else .bad
          | _ => .bad
        else fLcL g fYes fe vs xs acc fs2) = _
    rw [e1]
    show ((fe s1).noEx fun v fs3 => match v with
          | .d y => if acc.length < most then fLcL g fYes fe vs xs (acc ++ [y]) fs3 else .bad
          | _ => .bad) = _
    rw [e3]
    show (if acc.length < most then fLcL g fYes fe vs xs (acc ++ [y]) s3 else .bad) = _
    rw [if_pos (by omega), e']
end
theorem name_at {i : Nat} {x : D} {s : FS} {v : Option Sv} (h : s[i]? = some v) (hv : kIsL (some v) = false) : DL.gName i (.d x) s = some (s.set i (some (.d x))) := by
  rw [c_name_d, c_isL, h, hv]; rfl
section
variable {g : FG} {fe : FE} {vs : List Nat}
theorem lcL_len : ∀ (xs acc : List D) (s : FS) (ys : List D) (s' : FS), fLcL g fYes fe vs xs acc s = .ok ys s' → ys.length = acc.length + xs.length
  | [], acc, s, ys, s', h => by
    have h : Rs.ok acc s = .ok ys s' := h
    cases h; rfl
  | x :: xs, acc, s, ys, s', h => by
    have h : (match g (.d x) (wipeF s vs) with
      | none => Rs.bad
      | some fs1 => (fYes fs1).noEx fun b fs2 => if b = true then (fe fs2).noEx fun v fs3 => match v with
          | .d y => if acc.length < most then fLcL g fYes fe vs xs (acc ++ [y]) fs3 else .bad
          | _ => .bad
        else fLcL g fYes fe vs xs acc fs2) = .ok ys s' := h
    cases e1 : g (.d x) (wipeF s vs) with
    | none => rw [e1] at h; cases h
    | some s1 =>
      rw [e1] at h
      have h : ((fe s1).noEx fun v fs3 => match v with
          | .d y => if acc.length < most then fLcL g fYes fe vs xs (acc ++ [y]) fs3 else .bad
          | _ => .bad) = .ok ys s' := h
      cases e2 : fe s1 with
      | ok v s3 =>
        rw [e2] at h
        cases v with
        | d y =>
          have h : (if acc.length < most then fLcL g fYes fe vs xs (acc ++ [y]) s3 else .bad) = .ok ys s' := h
          by_cases c : acc.length < most
          · rw [if_pos c] at h
            have := lcL_len xs _ _ _ _ h
            rw [this]; simp; omega
          · rw [if_neg c] at h; cases h
        | _ => cases h
      | _ => rw [e2] at h; cases h
theorem lc_invN {fi : FI} {s s1 : FS} {xs : List D} (I : List D → FS → Prop) (hL : vs.any (isL s) = false) (hi : fi s = .ok (xs, none) s1) (hl1 : s1.length = s.length) (hl : xs.length ≤ most) (h : I [] (wipeF s1 vs))
    (st : ∀ x ∈ xs, ∀ acc W, I acc W → ∃ s1, g (.d x) W = some s1 ∧ ∃ y s3, fe s1 = .ok (.d y) s3 ∧ s3.length = W.length ∧ I (acc ++ [y]) (wipeF s3 vs)) : ∃ ys W, I ys W ∧ ys.length = xs.length ∧ fLc fi g fYes fe vs s = .ok (.d (.lst ys)) (restF s W vs) := by
  obtain ⟨ys, s', e', l', h'⟩ := lcL_inv (g := g) (fe := fe) (vs := vs) I xs [] s1 (by simpa using hl) h st
  refine ⟨ys, wipeF s' vs, h', by rw [lcL_len _ _ _ _ _ e']; simp, ?_⟩
  unfold fLc
  rw [hL, hi]
  show ((fLcL g fYes fe vs xs [] s1).noEx fun a fs2 => Rs.ok (FV.d (.lst a)) (restF s fs2 vs)) = _
  rw [e', restF_wipe s s' vs (by rw [l', hl1])]
  rfl
end
theorem log2_60 {n : Int} (h0 : 0 ≤ n) (h : n < 1000000) : n.natAbs.log2 < 9000 := log2_lt60 (by omega)
theorem pull_at (b : Bag) (hb : b.Ok) (n : Int) (h0 : 0 < n) (h9 : n < 1000000) : ∃ (k : Int) (b' : Bag), m__law_pull [.m b.M, .d (.int n)] = .ok (.d (.int k)) [.m b'.M, .d (.int n)] ∧ 0 ≤ k ∧ k < n ∧ b'.Ok := pull_ok b hb n h0 (log2_60 (by omega) h9)
mutual
/-- plain data, nested less than n deep -/
def sameOk : Nat → D → Bool
  | n + 1, .lst xs => decide (xs.length ≤ 1000000) && sameOks n xs
  | n + 1, .tup xs => decide (xs.length ≤ 1000000) && sameOks n xs
  | _ + 1, .non => true
  | _ + 1, .bl _ => true
  | _ + 1, .int _ => true
  | _ + 1, .str _ => true
  | _, _ => false
def sameOks : Nat → List D → Bool
  | _, [] => true
  | n, d :: ds => sameOk n d && sameOks n ds
end
theorem sameOks_mem {n : Nat} : ∀ {ds : List D}, sameOks n ds = true → ∀ d ∈ ds, sameOk n d = true
  | [], _, d, h => by cases h
  | e :: ds, h, d, hd => by
    simp only [sameOks, Bool.and_eq_true] at h
    rcases List.mem_cons.mp hd with rfl | hd
    · exact h.1
    · exact sameOks_mem h.2 d hd
theorem pairs_self : ∀ xs : List D, pairs xs xs = xs.map fun x => .tup [x, x]
  | [] => rfl
  | x :: xs => by rw [pairs, pairs_self xs]; rfl
theorem same_ok : ∀ (n : Nat) (x : D), sameOk n x = true → r__law_same n [.d x, .d x] = .ok (.d (.bl true)) [.d x, .d x]
  | 0, x, h => by cases x <;> simp [sameOk] at h
  | n + 1, x, h => by
    have lst : ∀ (xs : List D) (w : List D → D), (w = .lst ∨ w = .tup) → xs.length ≤ 1000000 → sameOks n xs = true → fLc (fIZ (fCons (fVar 0) (fCons (fVar 1) fNil))) (DL.gTup 2 (fgCons (DL.gName 2) (fgCons (DL.gName 3) fgNil))) fYes (fCall (r__law_same n) [] (fCons (fVar 2) (fCons (fVar 3) fNil))) [2, 3] [some (.d (w xs)), some (.d (w xs)), none, none] = .ok (.d (.lst ((xs.map fun _ => true).map D.bl))) [some (.d (w xs)), some (.d (w xs)), none, none] := by
      intro xs w hw hl hs
      have := lc_map (fi := fIZ (fCons (fVar 0) (fCons (fVar 1) fNil))) (g := DL.gTup 2 (fgCons (DL.gName 2) (fgCons (DL.gName 3) fgNil))) (fe := fCall (r__law_same n) [] (fCons (fVar 2) (fCons (fVar 3) fNil))) (vs := [2, 3]) (s := [some (.d (w xs)), some (.d (w xs)), none, none]) (s1 := [some (.d (w xs)), some (.d (w xs)), none, none]) (xs := pairs xs xs) (fun _ => .bl true) rfl
        (by rcases hw with rfl | rfl <;> walk_at "F") rfl (fun i hi sv e => by
          simp only [List.mem_cons, List.not_mem_nil, or_false] at hi
          rcases hi with rfl | rfl <;> simp at e) (by rw [pairs_self, List.length_map]; exact hl) (fun p hp => by
          rw [pairs_self] at hp
          obtain ⟨x, hx, rfl⟩ := List.mem_map.mp hp
          have ih := same_ok n x (sameOks_mem hs x hx)
          refine ⟨[some (.d (w xs)), some (.d (w xs)), some (.d x), some (.d x)], rfl, [some (.d (w xs)), some (.d (w xs)), some (.d x), some (.d x)], ?_, rfl⟩
          walk_at "F"
          rw [ih]
          walk_at "F")
      rw [this, pairs_self, List.map_map, List.map_map]
      rfl
    have all_ : ∀ xs : List D, ((xs.map fun _ => true).all id) = true := fun xs => by simp
    show b__law_same (r__law_same n) _ = _
    unfold b__law_same fb__law_same
    cases x with
    | non => walk_at "F"
    | bl c => walk_at "F"
    | int c => walk_at "F"
    | str c => walk_at "F"
    | lst xs =>
      simp only [sameOk, Bool.and_eq_true, decide_eq_true_eq] at h
      walk_at "F"
      rw [lst xs .lst (.inl rfl) h.1 h.2]
      walk_at "F"
      rw [all_]
    | tup xs =>
      simp only [sameOk, Bool.and_eq_true, decide_eq_true_eq] at h
      walk_at "F"
      rw [lst xs .tup (.inr rfl) h.1 h.2]
      walk_at "F"
      rw [all_]
    | ref _ => simp [sameOk] at h
    | obj _ _ _ => simp [sameOk] at h
    | dct _ _ => simp [sameOk] at h
    | ty _ => simp [sameOk] at h
    | klst _ => simp [sameOk] at h
    | exc _ _ _ => simp [sameOk] at h
theorem law_same {x : D} (h : sameOk 6 x = true) : m__law_same [.d x, .d x] = .ok (.d (.bl true)) [.d x, .d x] := same_ok 6 x h
theorem sameOks_of {n : Nat} : ∀ {ds : List D}, (∀ d ∈ ds, sameOk n d = true) → sameOks n ds = true
  | [], _ => by cases n <;> rfl
  | d :: ds, h => by
    show (sameOk n d && sameOks n ds) = true
    rw [h d List.mem_cons_self, sameOks_of fun e he => h e (List.mem_cons_of_mem _ he)]; rfl
theorem same_tup {n : Nat} {xs : List D} (hl : xs.length ≤ 1000000) (h : ∀ d ∈ xs, sameOk n d = true) : sameOk (n + 1) (.tup xs) = true := by
  show (decide (xs.length ≤ 1000000) && sameOks n xs) = true
  rw [sameOks_of h, decide_eq_true hl]; rfl
theorem same_lst {n : Nat} {xs : List D} (hl : xs.length ≤ 1000000) (h : ∀ d ∈ xs, sameOk n d = true) : sameOk (n + 1) (.lst xs) = true := by
  show (decide (xs.length ≤ 1000000) && sameOks n xs) = true
  rw [sameOks_of h, decide_eq_true hl]; rfl
mutual
theorem sameOk_up : ∀ {n : Nat} {d : D}, sameOk n d = true → sameOk (n + 1) d = true
  | 0, .lst _, h | 0, .tup _, h | 0, .non, h | 0, .bl _, h | 0, .int _, h | 0, .str _, h | 0, .ref _, h | 0, .obj _ _ _, h | 0, .dct _ _, h | 0, .ty _, h | 0, .klst _, h | 0, .exc _ _ _, h => by simp [sameOk] at h
  | n + 1, .lst xs, h => by
    have h : (decide (xs.length ≤ 1000000) && sameOks n xs) = true := h
    rw [Bool.and_eq_true] at h
    show (decide (xs.length ≤ 1000000) && sameOks (n + 1) xs) = true
    rw [h.1, sameOks_up h.2]; rfl
  | n + 1, .tup xs, h => by
    have h : (decide (xs.length ≤ 1000000) && sameOks n xs) = true := h
    rw [Bool.and_eq_true] at h
    show (decide (xs.length ≤ 1000000) && sameOks (n + 1) xs) = true
    rw [h.1, sameOks_up h.2]; rfl
  | n + 1, .non, _ => rfl
  | n + 1, .bl _, _ => rfl
  | n + 1, .int _, _ => rfl
  | n + 1, .str _, _ => rfl
  | n + 1, .ref _, h | n + 1, .obj _ _ _, h | n + 1, .dct _ _, h | n + 1, .ty _, h | n + 1, .klst _, h | n + 1, .exc _ _ _, h => by simp [sameOk] at h
theorem sameOks_up : ∀ {n : Nat} {ds : List D}, sameOks n ds = true → sameOks (n + 1) ds = true
  | n, [], _ => rfl
  | n, d :: ds, h => by
    have h : (sameOk n d && sameOks n ds) = true := by cases n <;> exact h
    rw [Bool.and_eq_true] at h
    show (sameOk (n + 1) d && sameOks (n + 1) ds) = true
    rw [sameOk_up h.1, sameOks_up h.2]; rfl
end
abbrev F22 (NS : D) (B : M) (o2 o3 o4 o5 o6 o7 o8 o9 o10 o11 : Option D) : FS := [some (.d NS), some (.m false B), o2.map Sv.d, o3.map Sv.d, o4.map Sv.d, o5.map Sv.d, o6.map Sv.d, o7.map Sv.d, o8.map Sv.d, o9.map Sv.d, o10.map Sv.d, o11.map Sv.d, none]
theorem free22 (b : Bag) (hb : b.Ok) (NS : D) (o2 o3 o4 o5 o6 o7 o8 o9 o10 o11 : Option D) : ∃ (bs : List Int) (b' : Bag), b'.Ok ∧ FreeOk bs ∧ fLc (fIR1 (fCons (fOp (op2 gAdd) (fC (.int 1)) (fCall m__law_pull [] (fCons (fVar 1) (fCons (fC (.int 8)) fNil)))) fNil)) (DL.gName 12) fYes (fCall m__law_pull [] (fCons (fVar 1) (fCons (fC (.int 256)) fNil))) [12] (F22 NS b.M o2 o3 o4 o5 o6 o7 o8 o9 o10 o11) = .ok (.d (.lst (bs.map D.int))) (F22 NS b'.M o2 o3 o4 o5 o6 o7 o8 o9 o10 o11) := by
  obtain ⟨k, b1, e1, k0, k1, hb1⟩ := pull_at b hb 8 (by decide) (by decide)
  have hi : fIR1 (fCons (fOp (op2 gAdd) (fC (.int 1)) (fCall m__law_pull [] (fCons (fVar 1) (fCons (fC (.int 8)) fNil)))) fNil) (F22 NS b.M o2 o3 o4 o5 o6 o7 o8 o9 o10 o11) = .ok (iota 0 (k.toNat + 1), none) (F22 NS b1.M o2 o3 o4 o5 o6 o7 o8 o9 o10 o11) := by
    have hk : (1 + k).toNat = k.toNat + 1 := by omega
    generalize b.M = B at *
    generalize b1.M = B1 at *
    walk_at "F"
    rw [e1]
    walk_at "F"
    rw [if_pos (by rw [Bool.and_eq_true, decide_eq_true_eq, decide_eq_true_eq]; omega), hk]
  obtain ⟨ys, W, ⟨bs, b', hb', rfl, hbs, rfl⟩, hlen, e⟩ := lc_invN (fi := fIR1 (fCons (fOp (op2 gAdd) (fC (.int 1)) (fCall m__law_pull [] (fCons (fVar 1) (fCons (fC (.int 8)) fNil)))) fNil)) (g := DL.gName 12) (fe := fCall m__law_pull [] (fCons (fVar 1) (fCons (fC (.int 256)) fNil))) (vs := [12]) (s := F22 NS b.M o2 o3 o4 o5 o6 o7 o8 o9 o10 o11) (s1 := F22 NS b1.M o2 o3 o4 o5 o6 o7 o8 o9 o10 o11) (xs := iota 0 (k.toNat + 1))
    (fun acc W => ∃ (bs : List Int) (b' : Bag), b'.Ok ∧ acc = bs.map .int ∧ (∀ i ∈ bs, 0 ≤ i ∧ i < 256) ∧ W = F22 NS b'.M o2 o3 o4 o5 o6 o7 o8 o9 o10 o11) rfl hi rfl (by rw [iota_length]; show _ ≤ 1000000; omega) ⟨[], b1, hb1, rfl, fun i hi => (by cases hi), rfl⟩ (fun x _ acc W ⟨bs, b2, hb2, ha, hbs, hW⟩ => by
    subst hW ha
    obtain ⟨n, b3, e3, n0, n1, hb3⟩ := pull_at b2 hb2 256 (by decide) (by decide)
    refine ⟨(F22 NS b2.M o2 o3 o4 o5 o6 o7 o8 o9 o10 o11).set 12 (some (.d x)), name_at (v := none) rfl rfl, .int n, (F22 NS b3.M o2 o3 o4 o5 o6 o7 o8 o9 o10 o11).set 12 (some (.d x)), ?_, rfl, bs ++ [n], b3, hb3, by rw [List.map_append]; rfl, fun i hi => ?_, rfl⟩
    · generalize b2.M = B at *
      generalize b3.M = B1 at *
      show fCall m__law_pull [] _ [some (.d NS), some (.m false B), o2.map Sv.d, o3.map Sv.d, o4.map Sv.d, o5.map Sv.d, o6.map Sv.d, o7.map Sv.d, o8.map Sv.d, o9.map Sv.d, o10.map Sv.d, o11.map Sv.d, some (.d x)] = .ok _ [some (.d NS), some (.m false B1), o2.map Sv.d, o3.map Sv.d, o4.map Sv.d, o5.map Sv.d, o6.map Sv.d, o7.map Sv.d, o8.map Sv.d, o9.map Sv.d, o10.map Sv.d, o11.map Sv.d, some (.d x)]
      walk_at "F"
      rw [e3]
      try walk_at "F"
      try rfl
    · rcases List.mem_append.mp hi with h | h
      · exact hbs i h
      · rw [List.mem_singleton] at h; subst h; exact ⟨n0, n1⟩)
  refine ⟨bs, b', hb', ⟨?_, ?_, fun i hi => by have := hbs i hi; omega⟩, e⟩
  · rw [List.length_map, iota_length] at hlen; omega
  · rw [List.length_map, iota_length] at hlen; omega
theorem evs_mem (bs : List Int) (n m : Int) (hf : FreeOk bs) (hn : 0 ≤ n ∧ n < 256) (hm : 0 ≤ m ∧ m < 10) (y : D) (hy : y ∈ [Ev.enc (.free bs), Ev.enc (.free bs), .tup [.str "pick", .int n], .tup [.str "size", .int m], .tup [.str "item"], .tup [.str "end"]]) : ∃ e : Ev, e.Ok ∧ y = e.enc := by
  simp only [List.mem_cons, List.not_mem_nil, or_false] at hy
  rcases hy with rfl | rfl | rfl | rfl | rfl | rfl
  · exact ⟨.free bs, hf, rfl⟩
  · exact ⟨.free bs, hf, rfl⟩
  · exact ⟨.pick n, ⟨hn.1, by omega⟩, rfl⟩
  · exact ⟨.size m, ⟨hm.1, by omega⟩, rfl⟩
  · exact ⟨.item, True.intro, rfl⟩
  · exact ⟨.fin, True.intro, rfl⟩
/-- a text of small signs -/
structure Sm (T : Str) (n : Nat) : Prop where
  ex : ∃ cs : List Nat, T = strL cs ∧ (∀ c ∈ cs, c < 256) ∧ cs.length ≤ n
theorem Sm.cut {T : Str} {n : Nat} (h : Sm T n) (lo hi : Option Int) : Sm (cutS T lo hi) n := by
  obtain ⟨cs, rfl, h1, h2⟩ := h.ex
  refine ⟨⟨_, rfl, fun c hc => h1 c ?_, ?_⟩⟩
  · have := List.mem_of_mem_drop (List.mem_of_mem_take hc)
    simpa using this
  · refine Nat.le_trans (List.length_take_le' ..) (Nat.le_trans (by rw [List.length_drop]; exact Nat.sub_le _ _) ?_)
    simpa using h2
theorem Sm.app {T U : Str} {n m : Nat} (h : Sm T n) (g : Sm U m) : Sm (T ++ U) (n + m) := by
  obtain ⟨cs, rfl, h1, h2⟩ := h.ex
  obtain ⟨ds, rfl, g1, g2⟩ := g.ex
  refine ⟨⟨cs ++ ds, strL_app _ _, fun c hc => ?_, by rw [List.length_append]; omega⟩⟩
  rcases List.mem_append.mp hc with h | h
  · exact h1 c h
  · exact g1 c h
theorem Sm.mono {T : Str} {n m : Nat} (h : Sm T n) (l : n ≤ m) : Sm T m := by
  obtain ⟨cs, e, h1, h2⟩ := h.ex
  exact ⟨⟨cs, e, h1, by omega⟩⟩
theorem signs_sm (y : D) (hy : y ∈ [D.str " ", .str "0", .str "1", .str "9", .str "a", .str "-", .str "\n"]) : ∃ U, y = .str U ∧ Sm U 1 := by
  have : ∀ U ∈ ([" ", "0", "1", "9", "a", "-", "\n"] : List Str), (∀ c ∈ U.cps.toList, c < 256) ∧ U.cps.toList.length ≤ 1 := by decide +kernel
  simp only [List.mem_cons, List.not_mem_nil, or_false] at hy
  rcases hy with rfl | rfl | rfl | rfl | rfl | rfl | rfl <;> exact ⟨_, rfl, ⟨⟨_, strL_of _, (this _ (by simp)).1, (this _ (by simp)).2⟩⟩⟩
/-- what read_event finds is a tuple -/
theorem evF_tup {H : Str} {ns : List Int} {d : D} (h : evF H ns = some d) (hl : ns.length ≤ 7000) : (∃ xs, d = .tup xs) ∧ sameOk 4 d = true := by
  have fl : ∀ (ns : List Int) (n : Nat), sameOks (n + 1) (ns.map D.int) = true := fun ns n => sameOks_of fun d hd => by
    obtain ⟨i, -, rfl⟩ := List.mem_map.mp hd; rfl
  unfold evF at h
  split at h
  · split at h
    · cases h
      exact ⟨⟨_, rfl⟩, same_tup (by simp) fun d hd => by
        simp only [List.mem_cons, List.not_mem_nil, or_false] at hd
        rcases hd with rfl | rfl
        · rfl
        · exact same_tup (by rw [List.length_map]; omega) fun d hd => by obtain ⟨i, -, rfl⟩ := List.mem_map.mp hd; rfl⟩
    · cases h
  · split at h
    · split at h
      · cases h
        exact ⟨⟨_, rfl⟩, same_tup (by simp; omega) fun d hd => by
          rcases List.mem_cons.mp hd with rfl | hd
          · rfl
          · obtain ⟨i, -, rfl⟩ := List.mem_map.mp hd; rfl⟩
      · cases h
    · generalize (if H = "pick" then isN (one22 ns) 255 else if H = "size" then isN (one22 ns) 9 else false) = bb at h
      split at h
      · cases h
        exact ⟨⟨_, rfl⟩, same_tup (by simp) fun d hd => by
          simp only [List.mem_cons, List.not_mem_nil, or_false] at hd
          rcases hd with rfl | rfl
          · rfl
          · cases one22 ns <;> rfl⟩
      · cases h
theorem evT_tup {cs : List Nat} {d : D} (h : evT cs = some d) (hl : cs.length ≤ 6000) : (∃ xs, d = .tup xs) ∧ sameOk 4 d = true := by
  unfold evT at h
  have hl2 : (splN 32 [] cs).length ≤ 6002 := by
    have := PyProof.Rows.split_le (strL cs) (strL [32])
    rw [split_strL (by decide), List.length_map, strL_len] at this
    omega
  cases hw : splN 32 [] cs with
  | nil => rw [hw] at h; cases h
  | cons w r =>
    rw [hw] at h hl2
    have h : (if r.all numB = true then evF (strL w) (r.map valN) else none) = some d := h
    split at h
    · exact evF_tup h (by rw [List.length_map]; simp at hl2; omega)
    · cases h
theorem field_ex : m__law_field [.d exT] = .ok (.d (.int 0)) [.d exT] := by kernel_rfl
theorem code_ex : xfG [C_InvalidText, C_NothingLeft] "code" (some exT) = some (.str "InvalidText") := by kernel_rfl
def pairT : Option D → D
  | some d => .tup [.str "", d]
  | none => .tup [.str "InvalidText", .int 0]
theorem try_ok22 (g : FE) (s s1 : FS) (x : D) (o : Option D) (h : g s = match o with | some d => .ok (.d d) s1 | none => .ex exT s1) : fTry [C_InvalidText, C_NothingLeft] m__law_field g s = .ok (.d (pairT o)) s1 := by
  rw [c_try, h]
  cases o with
  | some d => rfl
  | none =>
    show kTry _ _ (.ex exT s1) = _
    rw [c_try_ex, code_ex, c_try2, field_ex, c_try3]; rfl
def body22 : FSt := (sSeq (sAsg (fTup (fCons (fC (.str "free")) (fCons (fCB (opn gTuple) (fCons (fLc (fIR1 (fCons (fOp (op2 gAdd) (fC (.int 1)) (fCall m__law_pull [] (fCons (fVar 1) (fCons (fC (.int 8)) fNil)))) fNil)) (DL.gName 12) fYes (fCall m__law_pull [] (fCons (fVar 1) (fCons (fC (.int 256)) fNil))) [12]) fNil)) fNil))) (DL.gName 3))
      (sSeq (sAsg (fCall m__law_of [] (fCons (fVar 1) (fCons (fLst (fCons (fVar 3) (fCons (fVar 3) (fCons (fTup (fCons (fC (.str "pick")) (fCons (fCall m__law_pull [] (fCons (fVar 1) (fCons (fC (.int 256)) fNil))) fNil))) (fCons (fTup (fCons (fC (.str "size")) (fCons (fCall m__law_pull [] (fCons (fVar 1) (fCons (fC (.int 10)) fNil))) fNil))) (fCons (fTup (fCons (fC (.str "item")) fNil)) (fCons (fTup (fCons (fC (.str "end")) fNil)) fNil))))))) fNil))) (DL.gName 4))
      (sSeq (sAsg (fCall m__law_event_text [] (fCons (fVar 4) fNil)) (DL.gName 5))
      (sSeq (sIf (fNot (fTest (fCall m__law_same [] (fCons (fLst (fCons (fCallK m_event_text 0 1 [0] fNil (fCons (fVar 4) fNil)) (fCons (fCall m_read_event [] (fCons (fVar 5) fNil)) fNil))) (fCons (fLst (fCons (fVar 5) (fCons (fVar 4) fNil))) fNil)))))
        (sRet (fC (.bl false)))
        sNext)
      (sSeq (sPar [6, 7] (fCons (fCall m__law_pull [] (fCons (fVar 1) (fCons (fOp (op2 gAdd) (fCB (opn gLen) (fCons (fVar 5) fNil)) (fC (.int 1))) fNil))) (fCons (fCall m__law_of [] (fCons (fVar 1) (fCons (fLst (fCons (fC (.str " ")) (fCons (fC (.str "0")) (fCons (fC (.str "1")) (fCons (fC (.str "9")) (fCons (fC (.str "a")) (fCons (fC (.str "-")) (fCons (fC (.str "\n")) fNil)))))))) fNil))) fNil)))
      (sSeq (sAsg (fCall m__law_of [] (fCons (fVar 1) (fCons (fLst (fCons (fOp (op2 gAdd) (fOp (op2 gAdd) (fSl gCut (fVar 5) fNoPart (fPart (fVar 6))) (fVar 7)) (fSl gCut (fVar 5) (fPart (fVar 6)) fNoPart)) (fCons (fOp (op2 gAdd) (fSl gCut (fVar 5) fNoPart (fPart (fVar 6))) (fSl gCut (fVar 5) (fPart (fOp (op2 gAdd) (fVar 6) (fC (.int 1)))) fNoPart)) (fCons (fOp (op2 gAdd) (fOp (op2 gAdd) (fSl gCut (fVar 5) fNoPart (fPart (fVar 6))) (fVar 7)) (fSl gCut (fVar 5) (fPart (fOp (op2 gAdd) (fVar 6) (fC (.int 1)))) fNoPart)) fNil)))) fNil))) (DL.gName 8))
      (sSeq (sAsg (fCall m__law_event_of [] (fCons (fVar 8) fNil)) (DL.gName 9))
      (sSeq (sAsg (fTry [C_InvalidText, C_NothingLeft] m__law_field (fCallK m_read_event 0 1 [0] fNil (fCons (fVar 8) fNil))) (DL.gName 10))
      (sSeq (sIf (fNot (fTest (fCall m__law_same [] (fCons (fVar 10) (fCons (fIf (fTest (fOp (op2 gNotN) (fVar 9) (fC .non))) (fTup (fCons (fC (.str "")) (fCons (fVar 9) fNil))) (fTup (fCons (fC (.str "InvalidText")) (fCons (fC (.int 0)) fNil)))) fNil)))))
        (sRet (fC (.bl false)))
        sNext)
      (sSeq (sAsg (fCall m__law_of [] (fCons (fVar 1) (fCons (fLst (fCons (fC .non) (fCons (fC (.int 3)) (fCons (fC (.str "")) (fCons (fC (.str "item 1")) (fCons (fC (.str "free")) (fCons (fC (.str "free 256")) (fCons (fC (.str "pick")) (fCons (fC (.str "pick 1 2")) (fCons (fC (.str "size 10")) (fCons (fC (.str "free 01")) (fCons (fC (.str "Item")) (fCons (fC (.str "free  1")) (fCons (fTup (fCons (fC (.str "item")) fNil)) (fCons (fC (.bl true)) fNil))))))))))))))) fNil))) (DL.gName 11))
      (sIf (fNot (fTest (fCall m__law_same [] (fCons (fTry [C_InvalidText, C_NothingLeft] m__law_field (fCall m_read_event [] (fCons (fVar 11) fNil))) (fCons (fTup (fCons (fC (.str "InvalidText")) (fCons (fC (.int 0)) fNil))) fNil)))))
        (sRet (fC (.bl false)))
        sNext)))))))))))
abbrev odds : List D := [.non, .int 3, .str "", .str "item 1", .str "free", .str "free 256", .str "pick", .str "pick 1 2", .str "size 10", .str "free 01", .str "Item", .str "free  1", .tup [.str "item"], .bl true]
theorem odd_str (x : Str) (h : evT x.cps.toList = none ∧ (∀ c ∈ x.cps.toList, c < 256) ∧ x.cps.toList.length ≤ 6000) : m_read_event [.d (.str x)] = .ex exT [.d (.str x)] := by
  have := read_ok22 h.2.1 h.2.2
  rw [← strL_of, h.1] at this
  exact this
theorem odd_ok : ∀ x ∈ odds, m_read_event [.d x] = .ex exT [.d x] := by
  have key : ∀ z ∈ (["", "item 1", "free", "free 256", "pick", "pick 1 2", "size 10", "free 01", "Item", "free  1"] : List Str), (evT z.cps.toList).isNone = true ∧ (∀ c ∈ z.cps.toList, c < 256) ∧ z.cps.toList.length ≤ 6000 := by decide +kernel
  intro x hx
  simp only [odds, List.mem_cons, List.not_mem_nil, or_false] at hx
  have st : ∀ z ∈ (["", "item 1", "free", "free 256", "pick", "pick 1 2", "size 10", "free 01", "Item", "free  1"] : List Str), m_read_event [.d (.str z)] = .ex exT [.d (.str z)] := fun z hz => odd_str z ⟨Option.isNone_iff_eq_none.mp (key z hz).1, (key z hz).2⟩
  rcases hx with rfl | rfl | rfl | rfl | rfl | rfl | rfl | rfl | rfl | rfl | rfl | rfl | rfl | rfl
  · kernel_rfl
  · kernel_rfl
  · exact st _ (by simp)
  · exact st _ (by simp)
  · exact st _ (by simp)
  · exact st _ (by simp)
  · exact st _ (by simp)
  · exact st _ (by simp)
  · exact st _ (by simp)
  · exact st _ (by simp)
  · exact st _ (by simp)
  · exact st _ (by simp)
  · kernel_rfl
  · kernel_rfl
theorem seq_nx {f g : FSt} {s s1 : FS} (h : f s = .nx s1) : sSeq f g s = g s1 := by rw [c_seq, h]; rfl
theorem len_sm {T : Str} {n : Nat} (h : Sm T n) : T.length ≤ n := by
  obtain ⟨cs, rfl, h1, h2⟩ := h.ex
  rw [strL_len]; exact h2
theorem turn22 (NS : D) (b : Bag) (hb : b.Ok) (o2 o3 o4 o5 o6 o7 o8 o9 o10 o11 : Option D) : ∃ (b' : Bag) (p3 p4 p5 p6 p7 p8 p9 p10 p11 : Option D), b'.Ok ∧ body22 (F22 NS b.M o2 o3 o4 o5 o6 o7 o8 o9 o10 o11) = .nx (F22 NS b'.M o2 p3 p4 p5 p6 p7 p8 p9 p10 p11) := by
  obtain ⟨bs, b1, hb1, hf, eF⟩ := free22 b hb NS o2 o3 o4 o5 o6 o7 o8 o9 o10 o11
  obtain ⟨n, b2, e2, n0, n1, hb2⟩ := pull_at b1 hb1 256 (by decide) (by decide)
  obtain ⟨m, b3, e3, m0, m1, hb3⟩ := pull_at b2 hb2 10 (by decide) (by decide)
  obtain ⟨y, b4, e4, hy, hb4⟩ := of_lst b3 hb3 [Ev.enc (.free bs), Ev.enc (.free bs), .tup [.str "pick", .int n], .tup [.str "size", .int m], .tup [.str "item"], .tup [.str "end"]] (by simp) (by simp)
  obtain ⟨e, he, rfl⟩ := evs_mem bs n m hf ⟨n0, n1⟩ ⟨m0, m1⟩ y hy
  obtain ⟨t1, t2⟩ := text_small e he
  have e5 := law_event_text_ok e he
  have e6 := event_text_ok e he
  have e7 := read_ok22 t1 (by omega)
  rw [evT_text e he] at e7
  have e7 : m_read_event [.d (.str (strL e.text))] = .ok (.d e.enc) [.d (.str (strL e.text))] := e7
  have hE4 : sameOk 4 e.enc = true := (evT_tup (evT_text e he) (by omega)).2
  have eS1 : m__law_same [.d (.lst [.str (strL e.text), e.enc]), .d (.lst [.str (strL e.text), e.enc])] = .ok (.d (.bl true)) [.d (.lst [.str (strL e.text), e.enc]), .d (.lst [.str (strL e.text), e.enc])] := law_same (same_lst (by simp) fun d hd => by
    simp only [List.mem_cons, List.not_mem_nil, or_false] at hd
    rcases hd with rfl | rfl
    · rfl
    · exact sameOk_up hE4)
  have sT : Sm (strL e.text) 60 := ⟨⟨_, rfl, t1, t2⟩⟩
  have hlen : (((strL e.text).length : Nat) : Int) ≤ 60 := by have := len_sm sT; omega
  have hlen0 : (0 : Int) ≤ (((strL e.text).length : Nat) : Int) := by omega
  obtain ⟨at_, b5, e8, a0, a1, hb5⟩ := pull_at b4 hb4 ((((strL e.text).length : Nat) : Int) + 1) (by omega) (by omega)
  obtain ⟨y, b6, e9, hy, hb6⟩ := of_lst b5 hb5 [.str " ", .str "0", .str "1", .str "9", .str "a", .str "-", .str "\n"] (by simp) (by simp)
  obtain ⟨U, rfl, sU⟩ := signs_sm y hy
  have k1 := sT.cut none (some at_)
  have k2 := sT.cut (some at_) none
  have k3 := sT.cut (some (at_ + 1)) none
  have c1 := (k1.app sU).app k2
  have c2 := k1.app k3
  have c3 := (k1.app sU).app k3
  obtain ⟨y, b7, e10, hy, hb7⟩ := of_lst b6 hb6 [.str (cutS (strL e.text) none (some at_) ++ U ++ cutS (strL e.text) (some at_) none), .str (cutS (strL e.text) none (some at_) ++ cutS (strL e.text) (some (at_ + 1)) none), .str (cutS (strL e.text) none (some at_) ++ U ++ cutS (strL e.text) (some (at_ + 1)) none)] (by simp) (by simp)
  have hbent : ∃ cs : List Nat, y = .str (strL cs) ∧ (∀ c ∈ cs, c < 256) ∧ cs.length ≤ 6000 := by
    simp only [List.mem_cons, List.not_mem_nil, or_false] at hy
    rcases hy with rfl | rfl | rfl
    · obtain ⟨cs, q1, q2, q3⟩ := c1.ex; exact ⟨cs, by rw [q1], q2, by omega⟩
    · obtain ⟨cs, q1, q2, q3⟩ := c2.ex; exact ⟨cs, by rw [q1], q2, by omega⟩
    · obtain ⟨cs, q1, q2, q3⟩ := c3.ex; exact ⟨cs, by rw [q1], q2, by omega⟩
  obtain ⟨cs, rfl, q2, q3⟩ := hbent
  have e11 := evof_ok q2 q3
  have e12 := read_ok22 q2 q3
  obtain ⟨y, b8, e13, hy, hb8⟩ := of_lst b7 hb7 odds (by simp) (by simp)
  have e14 := odd_ok y hy
  have h2a : (cutS (strL e.text) none (some at_)).length + U.length ≤ 1000000 := by have := len_sm k1; have := len_sm sU; omega
  have h2b : (cutS (strL e.text) none (some at_) ++ U).length + (cutS (strL e.text) (some at_) none).length ≤ 1000000 := by have := len_sm (k1.app sU); have := len_sm k2; omega
  have h2c : (cutS (strL e.text) none (some at_)).length + (cutS (strL e.text) (some (at_ + 1)) none).length ≤ 1000000 := by have := len_sm k1; have := len_sm k3; omega
  have h2d : (cutS (strL e.text) none (some at_) ++ U).length + (cutS (strL e.text) (some (at_ + 1)) none).length ≤ 1000000 := by have := len_sm (k1.app sU); have := len_sm k3; omega
  have eP : ∀ o : Option D, (∀ d, o = some d → sameOk 4 d = true) → m__law_same [.d (pairT o), .d (pairT o)] = .ok (.d (.bl true)) [.d (pairT o), .d (pairT o)] := fun o ho => law_same (by
    cases o with
    | none => rfl
    | some d =>
      refine same_tup (by simp) fun x hx => ?_
      simp only [List.mem_cons, List.not_mem_nil, or_false] at hx
      rcases hx with rfl | rfl
      · rfl
      · exact sameOk_up (ho _ rfl))
  have eS2 := eP (evT cs) fun d hd => (evT_tup hd q3).2
  have eS3 := eP none fun d hd => by cases hd
  have hdue : (evT cs = none ∧ (evT cs).getD .non = .non) ∨ ∃ xs, evT cs = some (.tup xs) ∧ (evT cs).getD .non = .tup xs := by
    cases h : evT cs with
    | none => exact .inl ⟨rfl, rfl⟩
    | some d =>
      obtain ⟨xs, rfl⟩ := (evT_tup h q3).1
      exact .inr ⟨xs, rfl, rfl⟩
  refine ⟨b8, some (Ev.enc (.free bs)), some e.enc, some (.str (strL e.text)), some (.int at_), some (.str U), some (.str (strL cs)), some ((evT cs).getD .non), some (pairT (evT cs)), some y, hb8, ?_⟩
  have hfree : Ev.enc (.free bs) = .tup [.str "free", .tup (bs.map D.int)] := rfl
  clear hy t1 t2 he sT k1 k2 k3 c1 c2 c3 eP q2 q3 sU hE4 hf hb hb1 hb2 hb3 hb4 hb5 hb6 hb7 hb8
  rw [hfree] at e4 ⊢
  rw [show pairT none = .tup [.str "InvalidText", .int 0] from rfl] at eS3
  delta F22 at eF ⊢
  have eT1 : ∀ s : FS, s[8]? = some (some (.d (.str (strL cs)))) → fTry [C_InvalidText, C_NothingLeft] m__law_field (fCallK m_read_event 0 1 [0] fNil (fCons (fVar 8) fNil)) s = .ok (.d (pairT (evT cs))) s := fun s h8 => try_ok22 _ _ _ (.str (strL cs)) _ (by
    cases hv : evT cs with
    | none =>
      rw [hv] at e12
      have e12 : m_read_event [.d (.str (strL cs))] = .ex exT [.d (.str (strL cs))] := e12
      generalize strL cs = T at *
      walk_at "F"
      rw [h8]
      walk_at "F"
      rw [e12]
      try walk_at "F"
      try rfl
    | some d =>
      rw [hv] at e12
      have e12 : m_read_event [.d (.str (strL cs))] = .ok (.d d) [.d (.str (strL cs))] := e12
      generalize strL cs = T at *
      walk_at "F"
      rw [h8]
      walk_at "F"
      rw [e12]
      try walk_at "F"
      try rfl)
  have eT2 : ∀ s : FS, s[11]? = some (some (.d y)) → fTry [C_InvalidText, C_NothingLeft] m__law_field (fCall m_read_event [] (fCons (fVar 11) fNil)) s = .ok (.d (.tup [.str "InvalidText", .int 0])) s := fun s h8 => try_ok22 _ _ _ y none (by
    walk_at "F"
    rw [h8]
    walk_at "F"
    rw [e14]
    try walk_at "F"
    try rfl)
  generalize hC1 : cutS (strL e.text) none (some at_) = C1 at *
  generalize hC2 : cutS (strL e.text) (some at_) none = C2 at *
  generalize hC3 : cutS (strL e.text) (some (at_ + 1)) none = C3 at *
  generalize strL e.text = T at *
  clear e12 e14
  unfold body22
  generalize fTry [C_InvalidText, C_NothingLeft] m__law_field (fCallK m_read_event 0 1 [0] fNil (fCons (fVar 8) fNil)) = TR1 at *
  generalize fTry [C_InvalidText, C_NothingLeft] m__law_field (fCall m_read_event [] (fCons (fVar 11) fNil)) = TR2 at *
  generalize bs.map D.int = I at *
  generalize e.enc = V at *
  generalize strL cs = BT at *
  refine (seq_nx (s1 := F22 NS b1.M o2 (some (.tup [.str "free", .tup I])) o4 o5 o6 o7 o8 o9 o10 o11) ?_).trans ?_
  · clear e2 e3 e4 e5 e6 e7 e8 e9 e10 e11 e13 eS1 eS2 eS3 eT1 eT2
    generalize b.M = B at *
    generalize b1.M = B1 at *
    walk_at "F"
    rw [eF]
    try walk_at "F"
    try rfl
  refine (seq_nx (s1 := F22 NS b4.M o2 (some (.tup [.str "free", .tup I])) (some V) o5 o6 o7 o8 o9 o10 o11) ?_).trans ?_
  · clear eF e5 e6 e7 e8 e9 e10 e11 e13 eS1 eS2 eS3 eT1 eT2
    delta F22
    generalize b1.M = B1 at *
    generalize b2.M = B2 at *
    generalize b3.M = B3 at *
    generalize b4.M = B4 at *
    walk_at "F"
    rw [e2]
    try walk_at "F"
    rw [e3]
    try walk_at "F"
    rw [e4]
    try walk_at "F"
    try rfl
  refine (seq_nx (s1 := F22 NS b4.M o2 (some (.tup [.str "free", .tup I])) (some V) (some (.str T)) o6 o7 o8 o9 o10 o11) ?_).trans ?_
  · clear eF e2 e3 e4 e6 e7 e8 e9 e10 e11 e13 eS1 eS2 eS3 eT1 eT2
    delta F22
    generalize b4.M = B4 at *
    walk_at "F"
    rw [e5]
    try walk_at "F"
    try rfl
  refine (seq_nx (s1 := F22 NS b4.M o2 (some (.tup [.str "free", .tup I])) (some V) (some (.str T)) o6 o7 o8 o9 o10 o11) ?_).trans ?_
  · clear eF e2 e3 e4 e5 e8 e9 e10 e11 e13 eS2 eS3 eT1 eT2
    delta F22
    generalize b4.M = B4 at *
    walk_at "F"
    rw [e6]
    try walk_at "F"
    rw [e7]
    try walk_at "F"
    rw [eS1]
    try walk_at "F"
    try rfl
  refine (seq_nx (s1 := F22 NS b6.M o2 (some (.tup [.str "free", .tup I])) (some V) (some (.str T)) (some (.int at_)) (some (.str U)) o8 o9 o10 o11) ?_).trans ?_
  · clear eF e2 e3 e4 e5 e6 e7 e10 e11 e13 eS1 eS2 eS3 eT1 eT2
    delta F22
    generalize b4.M = B4 at *
    generalize b5.M = B5 at *
    generalize b6.M = B6 at *
    walk_at "F"
    rw [e8]
    try walk_at "F"
    rw [e9]
    try walk_at "F"
    try rfl
  refine (seq_nx (s1 := F22 NS b7.M o2 (some (.tup [.str "free", .tup I])) (some V) (some (.str T)) (some (.int at_)) (some (.str U)) (some (.str BT)) o9 o10 o11) ?_).trans ?_
  · clear eF e2 e3 e4 e5 e6 e7 e8 e9 e11 e13 eS1 eS2 eS3 eT1 eT2
    delta F22
    generalize b6.M = B6 at *
    generalize b7.M = B7 at *
    walk_at "F"
    rw [hC1]
    try walk_at "F"
    simp only [h2a, if_true, decide_true]
    try walk_at "F"
    rw [hC2]
    try walk_at "F"
    simp only [h2b, if_true, decide_true]
    try walk_at "F"
    rw [hC1]
    try walk_at "F"
    rw [hC3]
    try walk_at "F"
    simp only [h2c, if_true, decide_true]
    try walk_at "F"
    rw [hC1]
    try walk_at "F"
    simp only [h2a, if_true, decide_true]
    try walk_at "F"
    rw [hC3]
    try walk_at "F"
    simp only [h2d, if_true, decide_true]
    try walk_at "F"
    rw [e10]
    try walk_at "F"
    try rfl
  refine (seq_nx (s1 := F22 NS b7.M o2 (some (.tup [.str "free", .tup I])) (some V) (some (.str T)) (some (.int at_)) (some (.str U)) (some (.str BT)) (some ((evT cs).getD .non)) o10 o11) ?_).trans ?_
  · clear eF e2 e3 e4 e5 e6 e7 e8 e9 e10 e13 eS1 eS2 eS3 eT1 eT2
    delta F22
    generalize b7.M = B7 at *
    walk_at "F"
    rw [e11]
    try walk_at "F"
    try rfl
  refine (seq_nx (s1 := F22 NS b7.M o2 (some (.tup [.str "free", .tup I])) (some V) (some (.str T)) (some (.int at_)) (some (.str U)) (some (.str BT)) (some ((evT cs).getD .non)) (some (pairT (evT cs))) o11) ?_).trans ?_
  · clear eF e2 e3 e4 e5 e6 e7 e8 e9 e10 e11 e13 eS1 eS2 eS3 eT2
    delta F22
    have eT1 := eT1 [some (.d NS), some (.m false b7.M), o2.map Sv.d, some (.d (.tup [.str "free", .tup I])), some (.d V), some (.d (.str T)), some (.d (.int at_)), some (.d (.str U)), some (.d (.str BT)), some (.d ((evT cs).getD .non)), o10.map Sv.d, o11.map Sv.d, none] rfl
    generalize b7.M = B7 at *
    walk_at "F"
    rw [eT1]
    try walk_at "F"
    try rfl
  refine (seq_nx (s1 := F22 NS b7.M o2 (some (.tup [.str "free", .tup I])) (some V) (some (.str T)) (some (.int at_)) (some (.str U)) (some (.str BT)) (some ((evT cs).getD .non)) (some (pairT (evT cs))) o11) ?_).trans ?_
  · clear eF e2 e3 e4 e5 e6 e7 e8 e9 e10 e11 e13 eS1 eS3 eT1 eT2
    delta F22
    generalize b7.M = B7 at *
    rcases hdue with ⟨hn, hd⟩ | ⟨xs, hn, hd⟩
    · rw [hd, hn]
      rw [hn] at eS2
      rw [show pairT none = .tup [.str "InvalidText", .int 0] from rfl] at eS2 ⊢
      walk_at "F"
      rw [eS2]
      try walk_at "F"
      try rfl
    · rw [hd, hn]
      rw [hn] at eS2
      rw [show pairT (some (.tup xs)) = .tup [.str "", .tup xs] from rfl] at eS2 ⊢
      walk_at "F"
      rw [eS2]
      try walk_at "F"
      try rfl
  refine (seq_nx (s1 := F22 NS b8.M o2 (some (.tup [.str "free", .tup I])) (some V) (some (.str T)) (some (.int at_)) (some (.str U)) (some (.str BT)) (some ((evT cs).getD .non)) (some (pairT (evT cs))) (some y)) ?_).trans ?_
  · clear eF e2 e3 e4 e5 e6 e7 e8 e9 e10 e11 eS1 eS2 eS3 eT1 eT2
    delta F22
    generalize b7.M = B7 at *
    generalize b8.M = B8 at *
    walk_at "F"
    rw [e13]
    try walk_at "F"
    try rfl
  · clear eF e2 e3 e4 e5 e6 e7 e8 e9 e10 e11 e13 eS1 eS2 eT1
    delta F22
    have eT2 := eT2 [some (.d NS), some (.m false b8.M), o2.map Sv.d, some (.d (.tup [.str "free", .tup I])), some (.d V), some (.d (.str T)), some (.d (.int at_)), some (.d (.str U)), some (.d (.str BT)), some (.d ((evT cs).getD .non)), some (.d (pairT (evT cs))), some (.d y), none] rfl
    generalize b8.M = B8 at *
    walk_at "F"
    rw [eT2]
    try walk_at "F"
    rw [eS3]
    try walk_at "F"
    try rfl
theorem law_true (ns : List Int) (h : ns.length ≤ 63) : ∃ as', m_law [.d (.klst (ns.map D.int))] = .ok (.d (.bl true)) as' := by
  obtain ⟨b0, hb0, e0⟩ := bag_ok ns h
  have e1 : m_read_event [.d (.str "free 0 255")] = .ok (.d (.tup [.str "free", .tup [.int 0, .int 255]])) [.d (.str "free 0 255")] := by
    have key : ∀ z ∈ (["free 0 255"] : List Str), (∀ c ∈ z.cps.toList, c < 256) ∧ z.cps.toList.length ≤ 6000 := by decide +kernel
    have k := key "free 0 255" (by simp)
    have := read_ok22 k.1 k.2
    rw [← strL_of] at this
    have ht : ("free 0 255" : Str).cps.toList = Ev.text (.free [0, 255]) := by decide +kernel
    rw [ht, evT_text (.free [0, 255]) ⟨by simp, by simp, fun b hb => by simp at hb; rcases hb with rfl | rfl <;> omega⟩] at this
    exact this
  have q1 : gEq (.tup [.str "free", .tup [.int 0, .int 255]]) (.tup [.str "free", .tup [.int 0, .int 255]]) = some (.bl true) := by kernel_rfl
  unfold m_law b_law fb_law
  walk_at "F"
  rw [e0]
  walk_at "F"
  refine for_fin (fun s => ∃ (b : Bag) (o2 o3 o4 o5 o6 o7 o8 o9 o10 o11 : Option D), b.Ok ∧ s = F22 (.klst (ns.map D.int)) b.M o2 o3 o4 o5 o6 o7 o8 o9 o10 o11) ⟨b0, none, none, none, none, none, none, none, none, none, none, hb0, rfl⟩ ?_ ?_
  · rintro x hx s ⟨b, o2, o3, o4, o5, o6, o7, o8, o9, o10, o11, hb, rfl⟩
    refine ⟨F22 (.klst (ns.map D.int)) b.M (some x) o3 o4 o5 o6 o7 o8 o9 o10 o11, name_at (v := o2.map Sv.d) rfl isL_map, ?_⟩
    obtain ⟨b', p3, p4, p5, p6, p7, p8, p9, p10, p11, hb', e⟩ := turn22 (.klst (ns.map D.int)) b hb (some x) o3 o4 o5 o6 o7 o8 o9 o10 o11
    exact ⟨_, e, b', _, _, _, _, _, _, _, _, _, _, hb', rfl⟩
  · rintro s ⟨b, o2, o3, o4, o5, o6, o7, o8, o9, o10, o11, hb, rfl⟩
    generalize ns.map D.int = NS at *
    generalize b.M = B at *
    walk_at "F"
    rw [e1]
    walk_at "F"
    rw [q1]
    walk_at "F"
    exact ⟨_, rfl⟩
end Mine
end
section
set_option Elab.async false
set_option linter.all false
set_option maxRecDepth 100000
set_option maxHeartbeats 4000000
set_option autoImplicit false
namespace Mine
open PySem PySem.Spec PyProof.Rows L2 DL
def top (i : Nat) : Stmt := PySem.Challenge.pw_headhold_k22_texts_of_events.main.body.getD i (.Pass ⟨0, 0, 0, 0⟩)
abbrev s_is_number : Stmt := top 6
abbrev n_is_number : List Str := ["value", "least", "most"]
theorem sc_is_number : FnScope n_is_number ["value", "least", "most"] (defScope s_is_number) := ⟨rfl, rfl, rfl, by decide +kernel, rfl, by decide +kernel, by decide +kernel⟩
abbrev s_is_byte : Stmt := top 7
abbrev n_is_byte : List Str := ["value"]
theorem sc_is_byte : FnScope n_is_byte ["value"] (defScope s_is_byte) := ⟨rfl, rfl, rfl, by decide +kernel, rfl, by decide +kernel, by decide +kernel⟩
abbrev s_are_bytes : Stmt := top 8
abbrev n_are_bytes : List Str := ["value", "most", "item"]
theorem sc_are_bytes : FnScope n_are_bytes ["value", "most"] (defScope s_are_bytes) := ⟨rfl, rfl, rfl, by decide +kernel, rfl, by decide +kernel, by decide +kernel⟩
abbrev s_is_event : Stmt := top 11
abbrev n_is_event : List Str := ["value"]
theorem sc_is_event : FnScope n_is_event ["value"] (defScope s_is_event) := ⟨rfl, rfl, rfl, by decide +kernel, rfl, by decide +kernel, by decide +kernel⟩
abbrev s_is_plain_number : Stmt := top 13
abbrev n_is_plain_number : List Str := ["word", "sign"]
theorem sc_is_plain_number : FnScope n_is_plain_number ["word"] (defScope s_is_plain_number) := ⟨rfl, rfl, rfl, by decide +kernel, rfl, by decide +kernel, by decide +kernel⟩
abbrev s_read_event : Stmt := top 14
abbrev n_read_event : List Str := ["text", "words", "numbers", "found", "word"]
theorem sc_read_event : FnScope n_read_event ["text"] (defScope s_read_event) := ⟨rfl, rfl, rfl, by decide +kernel, rfl, by decide +kernel, by decide +kernel⟩
abbrev s__law_same : Stmt := top 20
abbrev n__law_same : List Str := ["_law_found", "_law_due", "_law_one", "_law_two"]
theorem sc__law_same : FnScope n__law_same ["_law_found", "_law_due"] (defScope s__law_same) := ⟨rfl, rfl, rfl, by decide +kernel, rfl, by decide +kernel, by decide +kernel⟩
abbrev s__law_field : Stmt := top 21
abbrev n__law_field : List Str := ["_law_e"]
theorem sc__law_field : FnScope n__law_field ["_law_e"] (defScope s__law_field) := ⟨rfl, rfl, rfl, by decide +kernel, rfl, by decide +kernel, by decide +kernel⟩
abbrev s__law_pull : Stmt := top 17
abbrev n__law_pull : List Str := ["_law_bag_here", "_law_many", "_law_cell", "_law_digit", "_law_seed"]
theorem sc__law_pull : FnScope n__law_pull ["_law_bag_here", "_law_many"] (defScope s__law_pull) := ⟨rfl, rfl, rfl, by decide +kernel, rfl, by decide +kernel, by decide +kernel⟩
abbrev s__law_of : Stmt := top 18
abbrev n__law_of : List Str := ["_law_bag_here", "_law_some"]
theorem sc__law_of : FnScope n__law_of ["_law_bag_here", "_law_some"] (defScope s__law_of) := ⟨rfl, rfl, rfl, by decide +kernel, rfl, by decide +kernel, by decide +kernel⟩
abbrev s__law_number_so : Stmt := top 23
abbrev n__law_number_so : List Str := ["_law_word", "_law_sign"]
theorem sc__law_number_so : FnScope n__law_number_so ["_law_word"] (defScope s__law_number_so) := ⟨rfl, rfl, rfl, by decide +kernel, rfl, by decide +kernel, by decide +kernel⟩
abbrev s__law_event_of : Stmt := top 24
abbrev n__law_event_of : List Str := ["_law_term", "_law_words", "_law_numbers", "_law_good", "_law_most", "_law_word", "_law_byte"]
theorem sc__law_event_of : FnScope n__law_event_of ["_law_term"] (defScope s__law_event_of) := ⟨rfl, rfl, rfl, by decide +kernel, rfl, by decide +kernel, by decide +kernel⟩
abbrev s_event_text : Stmt := top 12
abbrev n_event_text : List Str := ["event", "byte"]
theorem sc_event_text : FnScope n_event_text ["event"] (defScope s_event_text) := ⟨rfl, rfl, rfl, by decide +kernel, rfl, by decide +kernel, by decide +kernel⟩
abbrev s__law_event_text : Stmt := top 19
abbrev n__law_event_text : List Str := ["_law_event", "_law_byte", "_law_one"]
theorem sc__law_event_text : FnScope n__law_event_text ["_law_event"] (defScope s__law_event_text) := ⟨rfl, rfl, rfl, by decide +kernel, rfl, by decide +kernel, by decide +kernel⟩
abbrev s__law_bag : Stmt := top 16
abbrev n__law_bag : List Str := ["_law_script", "_law_mixed", "_law_cell"]
theorem sc__law_bag : FnScope n__law_bag ["_law_script"] (defScope s__law_bag) := ⟨rfl, rfl, rfl, by decide +kernel, rfl, by decide +kernel, by decide +kernel⟩
abbrev s_law : Stmt := top 25
abbrev n_law : List Str := ["_law_script", "_law_bag_here", "_law_turn", "_law_free", "_law_event_z", "_law_term", "_law_at", "_law_sign", "_law_bent", "_law_due", "_law_found", "_law_odd", "_law_k"]
theorem sc_law : FnScope n_law ["_law_script"] (defScope s_law) := ⟨rfl, rfl, rfl, by decide +kernel, rfl, by decide +kernel, by decide +kernel⟩
abbrev s__law_try : Stmt := top 22
abbrev n__law_try : List Str := ["_law_ask", "_law_e"]
theorem sc__law_try : FnScope n__law_try ["_law_ask"] (defScope s__law_try) := ⟨rfl, rfl, rfl, by decide +kernel, rfl, by decide +kernel, by decide +kernel⟩
abbrev s_InvalidText___init__ : Stmt := inClass (top 2) 0
theorem su_InvalidText : EXX.SupS ["self", "at"] ["self", "at"] (defScope s_InvalidText___init__) := ⟨rfl, rfl, rfl, by decide +kernel, rfl, by decide +kernel, by decide +kernel, by decide +kernel, rfl, rfl⟩
abbrev s_NothingLeft___init__ : Stmt := inClass (top 4) 0
theorem su_NothingLeft : EXX.SupS ["self"] ["self"] (defScope s_NothingLeft___init__) := ⟨rfl, rfl, rfl, by decide +kernel, rfl, by decide +kernel, by decide +kernel, by decide +kernel, rfl, rfl⟩
structure Tx (P : Program) (K : PySem.W.Frag) (mg : Str → Option Value) where
  f_is_number : Addr
  fd_is_number : FuncData
  F_is_number : Fun K "is_number" "is_number" s_is_number f_is_number fd_is_number
  m_is_number : mg "is_number" = some (.ref f_is_number)
  b_is_number : Binds K fd_is_number ["value", "least", "most"] []
  f_is_byte : Addr
  fd_is_byte : FuncData
  F_is_byte : Fun K "is_byte" "is_byte" s_is_byte f_is_byte fd_is_byte
  m_is_byte : mg "is_byte" = some (.ref f_is_byte)
  b_is_byte : Binds K fd_is_byte ["value"] []
  f_are_bytes : Addr
  fd_are_bytes : FuncData
  F_are_bytes : Fun K "are_bytes" "are_bytes" s_are_bytes f_are_bytes fd_are_bytes
  m_are_bytes : mg "are_bytes" = some (.ref f_are_bytes)
  b_are_bytes : Binds K fd_are_bytes ["value", "most"] []
  f_is_event : Addr
  fd_is_event : FuncData
  F_is_event : Fun K "is_event" "is_event" s_is_event f_is_event fd_is_event
  m_is_event : mg "is_event" = some (.ref f_is_event)
  b_is_event : Binds K fd_is_event ["value"] []
  f_is_plain_number : Addr
  fd_is_plain_number : FuncData
  F_is_plain_number : Fun K "is_plain_number" "is_plain_number" s_is_plain_number f_is_plain_number fd_is_plain_number
  m_is_plain_number : mg "is_plain_number" = some (.ref f_is_plain_number)
  b_is_plain_number : Binds K fd_is_plain_number ["word"] []
  f_read_event : Addr
  fd_read_event : FuncData
  F_read_event : Fun K "read_event" "read_event" s_read_event f_read_event fd_read_event
  m_read_event : mg "read_event" = some (.ref f_read_event)
  b_read_event : Binds K fd_read_event ["text"] []
  f__law_same : Addr
  fd__law_same : FuncData
  F__law_same : Fun K "_law_same" "_law_same" s__law_same f__law_same fd__law_same
  m__law_same : mg "_law_same" = some (.ref f__law_same)
  b__law_same : Binds K fd__law_same ["_law_found", "_law_due"] []
  f__law_field : Addr
  fd__law_field : FuncData
  F__law_field : Fun K "_law_field" "_law_field" s__law_field f__law_field fd__law_field
  m__law_field : mg "_law_field" = some (.ref f__law_field)
  b__law_field : Binds K fd__law_field ["_law_e"] []
  f__law_pull : Addr
  fd__law_pull : FuncData
  F__law_pull : Fun K "_law_pull" "_law_pull" s__law_pull f__law_pull fd__law_pull
  m__law_pull : mg "_law_pull" = some (.ref f__law_pull)
  b__law_pull : Binds K fd__law_pull ["_law_bag_here", "_law_many"] []
  f__law_of : Addr
  fd__law_of : FuncData
  F__law_of : Fun K "_law_of" "_law_of" s__law_of f__law_of fd__law_of
  m__law_of : mg "_law_of" = some (.ref f__law_of)
  b__law_of : Binds K fd__law_of ["_law_bag_here", "_law_some"] []
  f__law_number_so : Addr
  fd__law_number_so : FuncData
  F__law_number_so : Fun K "_law_number_so" "_law_number_so" s__law_number_so f__law_number_so fd__law_number_so
  m__law_number_so : mg "_law_number_so" = some (.ref f__law_number_so)
  b__law_number_so : Binds K fd__law_number_so ["_law_word"] []
  f__law_event_of : Addr
  fd__law_event_of : FuncData
  F__law_event_of : Fun K "_law_event_of" "_law_event_of" s__law_event_of f__law_event_of fd__law_event_of
  m__law_event_of : mg "_law_event_of" = some (.ref f__law_event_of)
  b__law_event_of : Binds K fd__law_event_of ["_law_term"] []
  f_event_text : Addr
  fd_event_text : FuncData
  F_event_text : Fun K "event_text" "event_text" s_event_text f_event_text fd_event_text
  m_event_text : mg "event_text" = some (.ref f_event_text)
  f__law_event_text : Addr
  fd__law_event_text : FuncData
  F__law_event_text : Fun K "_law_event_text" "_law_event_text" s__law_event_text f__law_event_text fd__law_event_text
  m__law_event_text : mg "_law_event_text" = some (.ref f__law_event_text)
  b__law_event_text : Binds K fd__law_event_text ["_law_event"] []
  f__law_bag : Addr
  fd__law_bag : FuncData
  F__law_bag : Fun K "_law_bag" "_law_bag" s__law_bag f__law_bag fd__law_bag
  m__law_bag : mg "_law_bag" = some (.ref f__law_bag)
  b__law_bag : Binds K fd__law_bag ["_law_script"] []
  f_law : Addr
  fd_law : FuncData
  cc_law : Addr
  P_law : Addr
  F_law : FunC K "law" "law" s_law f_law fd_law cc_law
  tk_law : TabK K P_law ("law" ++ ".<locals>." ++ "<lambda>")
  uq_law : ∀ q', TabK K P_law q' → q' = "law" ++ ".<locals>." ++ "<lambda>"
  m_law : mg "law" = some (.ref f_law)
  f__law_try : Addr
  fd__law_try : FuncData
  F__law_try : Fun K "_law_try" "_law_try" s__law_try f__law_try fd__law_try
  m__law_try : mg "_law_try" = some (.ref f__law_try)
  b__law_try : Binds K fd__law_try ["_law_ask"] []
  g_InvalidText : mg "InvalidText" = some (.ref C_InvalidText)
  g_Missing : mg "Missing" = some (.ref C_Missing)
  g_NothingLeft : mg "NothingLeft" = some (.ref C_NothingLeft)
  g_PlanError : mg "PlanError" = some (.ref C_PlanError)
  ox_InvalidText : EXX.OexG K "ValueError" "ValueError.__new__" "ValueError.__init__" [.type "ValueError", .type "Exception", .type "BaseException", .type "object"] C_InvalidText
  fI_InvalidText : Addr
  fdI_InvalidText : FuncData
  cda_InvalidText : Addr
  ccc_InvalidText : Addr
  iC_InvalidText : PySem.W.findIn K (.ref C_InvalidText) "__init__" = some (some (.ref fI_InvalidText))
  tI_InvalidText : PySem.W.typeIn K (.ref fI_InvalidText) = some (.type "function")
  sf_InvalidText : EXX.SupF P K mg C_InvalidText fI_InvalidText "InvalidText.__init__" (defArgs s_InvalidText___init__) (defBody s_InvalidText___init__) (defScope s_InvalidText___init__) cda_InvalidText ccc_InvalidText fdI_InvalidText
  bI_InvalidText : Binds K fdI_InvalidText ["self", "at"] []
  tc_InvalidText : PySem.W.takerIn K C_InvalidText "code" = some none
  tf_InvalidText : PySem.W.takerIn K C_InvalidText "at" = some none
  xf_InvalidText : XfC K C_InvalidText
  xa_InvalidText_at : PySem.W.findIn K (.ref C_InvalidText) "at" = some none
  xa_InvalidText_code : PySem.W.findIn K (.ref C_InvalidText) "code" = some none
  xa_InvalidText_given : PySem.W.findIn K (.ref C_InvalidText) "given" = some none
  xa_InvalidText_limit : PySem.W.findIn K (.ref C_InvalidText) "limit" = some none
  xa_InvalidText_line : PySem.W.findIn K (.ref C_InvalidText) "line" = some none
  xa_InvalidText_most : PySem.W.findIn K (.ref C_InvalidText) "most" = some none
  xa_InvalidText_name : PySem.W.findIn K (.ref C_InvalidText) "name" = some none
  ca_InvalidText : Caught K [.ref C_PlanError, .ref C_Missing, .ref C_NothingLeft] C_InvalidText
  ox_NothingLeft : EXX.OexG K "IndexError" "IndexError.__new__" "IndexError.__init__" [.type "IndexError", .type "LookupError", .type "Exception", .type "BaseException", .type "object"] C_NothingLeft
  fI_NothingLeft : Addr
  fdI_NothingLeft : FuncData
  cda_NothingLeft : Addr
  ccc_NothingLeft : Addr
  iC_NothingLeft : PySem.W.findIn K (.ref C_NothingLeft) "__init__" = some (some (.ref fI_NothingLeft))
  tI_NothingLeft : PySem.W.typeIn K (.ref fI_NothingLeft) = some (.type "function")
  sf_NothingLeft : EXX.SupF P K mg C_NothingLeft fI_NothingLeft "NothingLeft.__init__" (defArgs s_NothingLeft___init__) (defBody s_NothingLeft___init__) (defScope s_NothingLeft___init__) cda_NothingLeft ccc_NothingLeft fdI_NothingLeft
  bI_NothingLeft : Binds K fdI_NothingLeft ["self"] []
  tc_NothingLeft : PySem.W.takerIn K C_NothingLeft "code" = some none
  xf_NothingLeft : XfC K C_NothingLeft
  xa_NothingLeft_at : PySem.W.findIn K (.ref C_NothingLeft) "at" = some none
  xa_NothingLeft_code : PySem.W.findIn K (.ref C_NothingLeft) "code" = some none
  xa_NothingLeft_given : PySem.W.findIn K (.ref C_NothingLeft) "given" = some none
  xa_NothingLeft_limit : PySem.W.findIn K (.ref C_NothingLeft) "limit" = some none
  xa_NothingLeft_line : PySem.W.findIn K (.ref C_NothingLeft) "line" = some none
  xa_NothingLeft_most : PySem.W.findIn K (.ref C_NothingLeft) "most" = some none
  xa_NothingLeft_name : PySem.W.findIn K (.ref C_NothingLeft) "name" = some none
  ca_NothingLeft : Caught K [.ref C_PlanError, .ref C_Missing, .ref C_NothingLeft] C_NothingLeft
  n_all : mg "all" = none
  n_bool : mg "bool" = none
  n_dict : mg "dict" = none
  n_int : mg "int" = none
  n_isinstance : mg "isinstance" = none
  n_len : mg "len" = none
  n_list : mg "list" = none
  n_range : mg "range" = none
  n_str : mg "str" = none
  n_tuple : mg "tuple" = none
  n_zip : mg "zip" = none
  u_DIGITS : Value
  c_DIGITS : mg "DIGITS" = some u_DIGITS
  r_DIGITS : RelV (.str "0123456789") u_DIGITS
  kb_event_text_0_event : KB K fd_event_text ["event"] 0 ["event"] [0]
  kb_read_event_0_text : KB K fd_read_event ["text"] 0 ["text"] [0]
section
variable {P : Program} {w : World} {K : PySem.W.Frag} {mg : Str → Option Value} {base : Heap}
theorem ini_InvalidText {k : Nat} (T : Tx P K mg) : FnOk P w K mg base (L2.CX P w) (k + 1) T.fI_InvalidText T.fdI_InvalidText ["self", "at"] (EXX.spX1 C_InvalidText "InvalidText" "at") :=
  EXX.fnSup1 T.sf_InvalidText su_InvalidText T.ox_InvalidText rfl rfl T.tc_InvalidText T.tf_InvalidText (by decide) (by decide)
theorem ok_is_number {k : Nat} (T : Tx P K mg) : FnOk P w K mg base (L2.CX P w) (k + 2) T.f_is_number T.fd_is_number ["value", "least", "most"] (sp0 K (CtF b_is_number)) := by
  refine fn0 T.F_is_number sc_is_number (fun ds η Z Φ h => ctf_len h) fun cdv A outer s H E ds η Z Φ hr hc => ?_
  have hu := hr.units
  refine ⟨_, _, (pdss_one (pds_ret (pd_and (pd_callB (kl_isi (K := K) (by rfl)) (by rfl) T.n_isinstance (by decide +kernel) (pda_cons (pd_var 0) (pda_cons (pd_type (T := "int") (by rfl) T.n_int (by decide +kernel)) pda_nil))) (pd_and (pd_not (pd_callB (kl_isi (K := K) (by rfl)) (by rfl) T.n_isinstance (by decide +kernel) (pda_cons (pd_var 0) (pda_cons (pd_type (T := "bool") (by rfl) T.n_bool (by decide +kernel)) pda_nil)))) (pd_one (pd_chain od_le od_le (pd_var 1) (pd_var 0) (pd_var 2))))))), ctf_body (body := fb_is_number) ?_ rfl hc⟩
  unfold fb_is_number
  exact (imps_ret (imp_andV (imp_cb impn_isi (imp_cons (imp_var) (imp_cons (imp_c) imp_nil))) (imp_andV (imp_notV (imp_cb impn_isi (imp_cons (imp_var) (imp_cons (imp_c) imp_nil)))) (imp_chain impo_le impo_le (imp_var) (imp_var) (imp_var)))))
theorem ok_is_byte {k : Nat} (T : Tx P K mg) {m_is_number : MF} (G_is_number : FnOk P w K mg base (L2.CX P w) k T.f_is_number T.fd_is_number ["value", "least", "most"] (sp0 K (CtF m_is_number))) : FnOk P w K mg base (L2.CX P w) (k + 2) T.f_is_byte T.fd_is_byte ["value"] (sp0 K (CtF (b_is_byte m_is_number))) := by
  refine fn0 T.F_is_byte sc_is_byte (fun ds η Z Φ h => ctf_len h) fun cdv A outer s H E ds η Z Φ hr hc => ?_
  have hu := hr.units
  refine ⟨_, _, (pdss_one (pds_ret (kd_call (by exact ⟨rfl, rfl, rfl, rfl, rfl⟩) G_is_number (hr.mono (by omega)) (by rfl) T.m_is_number T.F_is_number.kp T.b_is_number .nil (fun _ _ _ => .nil) (pda_cons (pd_var 0) (pda_cons pd_int (pda_cons pd_int pda_nil)))))), ctf_body (body := fb_is_byte m_is_number) ?_ rfl hc⟩
  unfold fb_is_byte
  exact (imps_ret (imp_call rfl (imp_cons (imp_var) (imp_cons (imp_c) (imp_cons (imp_c) imp_nil)))))
theorem ok_are_bytes {k : Nat} (T : Tx P K mg) {m_is_byte : MF} (G_is_byte : FnOk P w K mg base (L2.CX P w) k T.f_is_byte T.fd_is_byte ["value"] (sp0 K (CtF m_is_byte))) : FnOk P w K mg base (L2.CX P w) (k + 2) T.f_are_bytes T.fd_are_bytes ["value", "most"] (sp0 K (CtF (b_are_bytes m_is_byte))) := by
  refine fn0 T.F_are_bytes sc_are_bytes (fun ds η Z Φ h => ctf_len h) fun cdv A outer s H E ds η Z Φ hr hc => ?_
  have hu := hr.units
  refine ⟨_, _, (pdss_one (pds_ret (pd_and (pd_callB (kl_isi (K := K) (by rfl)) (by rfl) T.n_isinstance (by decide +kernel) (pda_cons (pd_var 0) (pda_cons (pd_type (T := "tuple") (by rfl) T.n_tuple (by decide +kernel)) pda_nil))) (pd_and (pd_cmp od_le (pd_callB (kl_len (K := K) (by rfl)) (by rfl) T.n_len (by decide +kernel) (pda_cons (pd_var 0) pda_nil)) (pd_var 1) (nomark _)) (pd_one (pd_callB (kl_all (K := K) (by rfl) rfl) (by rfl) T.n_all (by decide +kernel) (pda_cons (pd_lc (own := [("item", 2)]) rfl sc_are_bytes.nd (kdi_any (K := K) (by rfl) (pd_var 0)) (blkOk_by (N := n_are_bytes) (sc := defScope s_are_bytes) (by decide +kernel)) (fun _ _ _ _ _ => (pdg_name (i := 2) sc_are_bytes.nd rfl (by first | exact Or.inl rfl | exact Or.inr rfl))) (own_name (by decide)) (fun _ _ _ _ _ => pdts_nil) (fun _ _ _ _ _ => (kd_call (by exact ⟨rfl, rfl, rfl, rfl, rfl⟩) G_is_byte (hr.mono (by omega)) (by rfl) T.m_is_byte T.F_is_byte.kp T.b_is_byte .nil (fun _ _ _ => .nil) (pda_cons (pd_var 2) pda_nil)))) pda_nil))))))), ctf_body (body := fb_are_bytes m_is_byte) ?_ rfl hc⟩
  unfold fb_are_bytes
  exact (imps_ret (imp_andV (imp_cb impn_isi (imp_cons (imp_var) (imp_cons (imp_c) imp_nil))) (imp_andV (imp_op impo_le (imp_cb impn_len (imp_cons (imp_var) imp_nil)) (imp_var)) (imp_cb impn_all (imp_cons (imp_lc (impi_any (imp_var)) (impt_name (i := 2)) imp_yes (imp_call rfl (imp_cons (imp_var) imp_nil))) imp_nil)))))
theorem ok_is_event {k : Nat} (T : Tx P K mg) {m_is_number : MF} (G_is_number : FnOk P w K mg base (L2.CX P w) k T.f_is_number T.fd_is_number ["value", "least", "most"] (sp0 K (CtF m_is_number))) {m_is_byte : MF} (G_is_byte : FnOk P w K mg base (L2.CX P w) k T.f_is_byte T.fd_is_byte ["value"] (sp0 K (CtF m_is_byte))) {m_are_bytes : MF} (G_are_bytes : FnOk P w K mg base (L2.CX P w) k T.f_are_bytes T.fd_are_bytes ["value", "most"] (sp0 K (CtF m_are_bytes))) : FnOk P w K mg base (L2.CX P w) (k + 2) T.f_is_event T.fd_is_event ["value"] (sp0 K (CtF (b_is_event m_is_number m_is_byte m_are_bytes))) := by
  refine fn0 T.F_is_event sc_is_event (fun ds η Z Φ h => ctf_len h) fun cdv A outer s H E ds η Z Φ hr hc => ?_
  have hu := hr.units
  refine ⟨_, _, (pdss_cons (pds_if (pdt_cmp (kd_in (K := K) (by rfl) hu) (pd_var 0) (pd_tup (pda_cons (pd_tup (pda_cons (pd_str ⟨by decide +kernel, by decide +kernel⟩) pda_nil)) (pda_cons (pd_tup (pda_cons (pd_str ⟨by decide +kernel, by decide +kernel⟩) pda_nil)) pda_nil))) (by rfl))
      (pdss_one (pds_ret pd_bl))
      pdss_nil)
    (pdss_cons (pds_if (pdt_w (pdw_or (pdt_not (pdt_val (pd_callB (kl_isi (K := K) (by rfl)) (by rfl) T.n_isinstance (by decide +kernel) (pda_cons (pd_var 0) (pda_cons (pd_type (T := "tuple") (by rfl) T.n_tuple (by decide +kernel)) pda_nil))))) (pdw_or1 (pdt_cmp (kd_ne (K := K) (by rfl) hu) (pd_callB (kl_len (K := K) (by rfl)) (by rfl) T.n_len (by decide +kernel) (pda_cons (pd_var 0) pda_nil)) pd_int (nomark _)))))
      (pdss_one (pds_ret pd_bl))
      pdss_nil)
    (pdss_cons (pds_if (pdt_cmp (kd_eq (K := K) (by rfl) hu) (pd_ix (kd_ix (K := K) (by rfl)) (pd_var 0) pd_int (fun _ _ => rfl)) (pd_str ⟨by decide +kernel, by decide +kernel⟩) (nomark _))
      (pdss_one (pds_ret (pd_and (kd_call (by exact ⟨rfl, rfl, rfl, rfl, rfl⟩) G_are_bytes (hr.mono (by omega)) (by rfl) T.m_are_bytes T.F_are_bytes.kp T.b_are_bytes .nil (fun _ _ _ => .nil) (pda_cons (pd_ix (kd_ix (K := K) (by rfl)) (pd_var 0) pd_int (fun _ _ => rfl)) (pda_cons pd_int pda_nil))) (pd_one (pd_cmp od_gt (pd_callB (kl_len (K := K) (by rfl)) (by rfl) T.n_len (by decide +kernel) (pda_cons (pd_ix (kd_ix (K := K) (by rfl)) (pd_var 0) pd_int (fun _ _ => rfl)) pda_nil)) pd_int (nomark _))))))
      pdss_nil)
    (pdss_cons (pds_if (pdt_cmp (kd_eq (K := K) (by rfl) hu) (pd_ix (kd_ix (K := K) (by rfl)) (pd_var 0) pd_int (fun _ _ => rfl)) (pd_str ⟨by decide +kernel, by decide +kernel⟩) (nomark _))
      (pdss_one (pds_ret (kd_call (by exact ⟨rfl, rfl, rfl, rfl, rfl⟩) G_is_byte (hr.mono (by omega)) (by rfl) T.m_is_byte T.F_is_byte.kp T.b_is_byte .nil (fun _ _ _ => .nil) (pda_cons (pd_ix (kd_ix (K := K) (by rfl)) (pd_var 0) pd_int (fun _ _ => rfl)) pda_nil))))
      pdss_nil)
    (pdss_one (pds_ret (pd_and (pd_cmp (kd_eq (K := K) (by rfl) hu) (pd_ix (kd_ix (K := K) (by rfl)) (pd_var 0) pd_int (fun _ _ => rfl)) (pd_str ⟨by decide +kernel, by decide +kernel⟩) (nomark _)) (pd_one (kd_call (by exact ⟨rfl, rfl, rfl, rfl, rfl⟩) G_is_number (hr.mono (by omega)) (by rfl) T.m_is_number T.F_is_number.kp T.b_is_number .nil (fun _ _ _ => .nil) (pda_cons (pd_ix (kd_ix (K := K) (by rfl)) (pd_var 0) pd_int (fun _ _ => rfl)) (pda_cons pd_int (pda_cons pd_int pda_nil)))))))))))), ctf_body (body := fb_is_event m_is_number m_is_byte m_are_bytes) ?_ rfl hc⟩
  unfold fb_is_event
  exact (imps_seq (imps_if (imp_test (imp_op impo_in (imp_var) (imp_tup (imp_cons (imp_tup (imp_cons (imp_c) imp_nil)) (imp_cons (imp_tup (imp_cons (imp_c) imp_nil)) imp_nil)))))
      (imps_ret (imp_c))
      imps_next)
    (imps_seq (imps_if (imp_or (imp_not (imp_test (imp_cb impn_isi (imp_cons (imp_var) (imp_cons (imp_c) imp_nil))))) (imp_test (imp_op impo_ne (imp_cb impn_len (imp_cons (imp_var) imp_nil)) (imp_c))))
      (imps_ret (imp_c))
      imps_next)
    (imps_seq (imps_if (imp_test (imp_op impo_eq (imp_op impo_ix (imp_var) (imp_c)) (imp_c)))
      (imps_ret (imp_andV (imp_call rfl (imp_cons (imp_op impo_ix (imp_var) (imp_c)) (imp_cons (imp_c) imp_nil))) (imp_op impo_gt (imp_cb impn_len (imp_cons (imp_op impo_ix (imp_var) (imp_c)) imp_nil)) (imp_c))))
      imps_next)
    (imps_seq (imps_if (imp_test (imp_op impo_eq (imp_op impo_ix (imp_var) (imp_c)) (imp_c)))
      (imps_ret (imp_call rfl (imp_cons (imp_op impo_ix (imp_var) (imp_c)) imp_nil)))
      imps_next)
    (imps_ret (imp_andV (imp_op impo_eq (imp_op impo_ix (imp_var) (imp_c)) (imp_c)) (imp_call rfl (imp_cons (imp_op impo_ix (imp_var) (imp_c)) (imp_cons (imp_c) (imp_cons (imp_c) imp_nil))))))))))
theorem ok_is_plain_number {k : Nat} (T : Tx P K mg) : FnOk P w K mg base (L2.CX P w) (k + 2) T.f_is_plain_number T.fd_is_plain_number ["word"] (sp0 K (CtF b_is_plain_number)) := by
  refine fn0 T.F_is_plain_number sc_is_plain_number (fun ds η Z Φ h => ctf_len h) fun cdv A outer s H E ds η Z Φ hr hc => ?_
  have hu := hr.units
  refine ⟨_, _, (pdss_one (pds_ret (pd_and (pd_chain od_le od_le pd_int (pd_callB (kl_len (K := K) (by rfl)) (by rfl) T.n_len (by decide +kernel) (pda_cons (pd_var 0) pda_nil)) pd_int) (pd_and (pd_callB (kl_all (K := K) (by rfl) rfl) (by rfl) T.n_all (by decide +kernel) (pda_cons (pd_lc (own := [("sign", 1)]) rfl sc_is_plain_number.nd (kdi_any (K := K) (by rfl) (pd_var 0)) (blkOk_by (N := n_is_plain_number) (sc := defScope s_is_plain_number) (by decide +kernel)) (fun _ _ _ _ _ => (pdg_name (i := 1) sc_is_plain_number.nd rfl (by first | exact Or.inl rfl | exact Or.inr rfl))) (own_name (by decide)) (fun _ _ _ _ _ => pdts_nil) (fun _ _ _ _ _ => (pd_cmp (kd_in (K := K) (by rfl) hu) (pd_var 1) (pd_glob (by rfl) T.c_DIGITS T.r_DIGITS (fun _ _ _ => .str ⟨by decide +kernel, by decide +kernel⟩)) (by rfl)))) pda_nil)) (pd_one (pd_or (pd_cmp (kd_eq (K := K) (by rfl) hu) (pd_var 0) (pd_str ⟨by decide +kernel, by decide +kernel⟩) (nomark _)) (pd_one (pd_cmp (kd_ne (K := K) (by rfl) hu) (pd_ix (kd_ix (K := K) (by rfl)) (pd_var 0) pd_int (fun _ _ => rfl)) (pd_str ⟨by decide +kernel, by decide +kernel⟩) (nomark _))))))))), ctf_body (body := fb_is_plain_number) ?_ rfl hc⟩
  unfold fb_is_plain_number
  exact (imps_ret (imp_andV (imp_chain impo_le impo_le (imp_c) (imp_cb impn_len (imp_cons (imp_var) imp_nil)) (imp_c)) (imp_andV (imp_cb impn_all (imp_cons (imp_lc (impi_any (imp_var)) (impt_name (i := 1)) imp_yes (imp_op impo_in (imp_var) (imp_c))) imp_nil)) (imp_orV (imp_op impo_eq (imp_var) (imp_c)) (imp_op impo_ne (imp_op impo_ix (imp_var) (imp_c)) (imp_c))))))
theorem ok_read_event {k : Nat} (T : Tx P K mg) {m_is_event : MF} (G_is_event : FnOk P w K mg base (L2.CX P w) k T.f_is_event T.fd_is_event ["value"] (sp0 K (CtF m_is_event))) {m_is_plain_number : MF} (G_is_plain_number : FnOk P w K mg base (L2.CX P w) k T.f_is_plain_number T.fd_is_plain_number ["word"] (sp0 K (CtF m_is_plain_number))) : FnOk P w K mg base (L2.CX P w) (k + 4) T.f_read_event T.fd_read_event ["text"] (sp0 K (CtF (b_read_event m_is_event m_is_plain_number))) := by
  refine fn0 T.F_read_event sc_read_event (fun ds η Z Φ h => ctf_len h) fun cdv A outer s H E ds η Z Φ hr hc => ?_
  have hu := hr.units
  refine ⟨_, _, (pdss_cons (pds_set (i := 1) sc_read_event.nd rfl (by first | exact Or.inl rfl | exact Or.inr rfl) (pd_ifExp (pdt_val (pd_callB (kl_isi (K := K) (by rfl)) (by rfl) T.n_isinstance (by decide +kernel) (pda_cons (pd_var 0) (pda_cons (pd_type (T := "str") (by rfl) T.n_str (by decide +kernel)) pda_nil)))) (kd_split (pd_var 0) (pda_cons (pd_str ⟨by decide +kernel, by decide +kernel⟩) pda_nil)) (pd_lst (pda_cons (pd_str ⟨by decide +kernel, by decide +kernel⟩) pda_nil))))
    (pdss_cons (pds_if (pdt_not (pdt_val (pd_callB (kl_all (K := K) (by rfl) rfl) (by rfl) T.n_all (by decide +kernel) (pda_cons (pd_lc (own := [("word", 4)]) rfl sc_read_event.nd (kdi_any (K := K) (by rfl) (pd_slice (kd_sl (K := K) (by rfl)) (pd_var 1) (pdo_some pd_int) pdo_none)) (blkOk_by (N := n_read_event) (sc := defScope s_read_event) (by decide +kernel)) (fun _ _ _ _ _ => (pdg_name (i := 4) sc_read_event.nd rfl (by first | exact Or.inl rfl | exact Or.inr rfl))) (own_name (by decide)) (fun _ _ _ _ _ => pdts_nil) (fun _ _ _ _ _ => (kd_call (by exact ⟨rfl, rfl, rfl, rfl, rfl⟩) G_is_plain_number (hr.mono (by omega)) (by rfl) T.m_is_plain_number T.F_is_plain_number.kp T.b_is_plain_number .nil (fun _ _ _ => .nil) (pda_cons (pd_var 4) pda_nil)))) pda_nil))))
      (pdss_one (pds_raise1 rfl T.ox_InvalidText T.iC_InvalidText T.tI_InvalidText (ini_InvalidText (k := 0) T) (hr.mono (by omega)) T.bI_InvalidText (by rfl) T.g_InvalidText ⟨by decide +kernel, by decide +kernel⟩ pd_int))
      pdss_nil)
    (pdss_cons (pds_set (i := 2) sc_read_event.nd rfl (by first | exact Or.inl rfl | exact Or.inr rfl) (pd_callTy (kl_tuple (K := K) (by rfl)) (by rfl) T.n_tuple (by decide +kernel) (pda_cons (pd_lc (own := [("word", 4)]) rfl sc_read_event.nd (kdi_any (K := K) (by rfl) (pd_slice (kd_sl (K := K) (by rfl)) (pd_var 1) (pdo_some pd_int) pdo_none)) (blkOk_by (N := n_read_event) (sc := defScope s_read_event) (by decide +kernel)) (fun _ _ _ _ _ => (pdg_name (i := 4) sc_read_event.nd rfl (by first | exact Or.inl rfl | exact Or.inr rfl))) (own_name (by decide)) (fun _ _ _ _ _ => pdts_nil) (fun _ _ _ _ _ => (pd_callTy cl_intS (by rfl) T.n_int (by decide +kernel) (pda_cons (pd_var 4) pda_nil)))) pda_nil)))
    (pdss_cons (pds_if (pdt_cmp (kd_eq (K := K) (by rfl) hu) (pd_ix (kd_ix (K := K) (by rfl)) (pd_var 1) pd_int (fun _ _ => rfl)) (pd_str ⟨by decide +kernel, by decide +kernel⟩) (nomark _))
      (pdss_one (pds_set (i := 3) sc_read_event.nd rfl (by first | exact Or.inl rfl | exact Or.inr rfl) (pd_tup (pda_cons (pd_str ⟨by decide +kernel, by decide +kernel⟩) (pda_cons (pd_var 2) pda_nil)))))
      (pdss_one (pds_if (pdt_cmp (kd_in (K := K) (by rfl) hu) (pd_ix (kd_ix (K := K) (by rfl)) (pd_var 1) pd_int (fun _ _ => rfl)) (pd_tup (pda_cons (pd_str ⟨by decide +kernel, by decide +kernel⟩) (pda_cons (pd_str ⟨by decide +kernel, by decide +kernel⟩) pda_nil))) (by rfl))
        (pdss_one (pds_set (i := 3) sc_read_event.nd rfl (by first | exact Or.inl rfl | exact Or.inr rfl) (pd_tup (pda_cons (pd_ix (kd_ix (K := K) (by rfl)) (pd_var 1) pd_int (fun _ _ => rfl)) (pda_star (pd_var 2) pda_nil)))))
        (pdss_one (pds_set (i := 3) sc_read_event.nd rfl (by first | exact Or.inl rfl | exact Or.inr rfl) (pd_tup (pda_cons (pd_ix (kd_ix (K := K) (by rfl)) (pd_var 1) pd_int (fun _ _ => rfl)) (pda_cons (pd_ifExp (pdt_cmp (kd_eq (K := K) (by rfl) hu) (pd_callB (kl_len (K := K) (by rfl)) (by rfl) T.n_len (by decide +kernel) (pda_cons (pd_var 2) pda_nil)) pd_int (nomark _)) (pd_ix (kd_ix (K := K) (by rfl)) (pd_var 2) pd_int (fun _ _ => rfl)) pd_non) pda_nil))))))))
    (pdss_cons (pds_if (pdt_not (pdt_val (kd_call (by exact ⟨rfl, rfl, rfl, rfl, rfl⟩) G_is_event (hr.mono (by omega)) (by rfl) T.m_is_event T.F_is_event.kp T.b_is_event .nil (fun _ _ _ => .nil) (pda_cons (pd_var 3) pda_nil))))
      (pdss_one (pds_raise1 rfl T.ox_InvalidText T.iC_InvalidText T.tI_InvalidText (ini_InvalidText (k := 0) T) (hr.mono (by omega)) T.bI_InvalidText (by rfl) T.g_InvalidText ⟨by decide +kernel, by decide +kernel⟩ pd_int))
      pdss_nil)
    (pdss_one (pds_ret (pd_var 3)))))))), ctf_body (body := fb_read_event m_is_event m_is_plain_number) ?_ rfl hc⟩
  unfold fb_read_event
  exact (imps_seq (imps_asg (imp_if (imp_test (imp_cb impn_isi (imp_cons (imp_var) (imp_cons (imp_c) imp_nil)))) (imp_mA impma_split (imp_var) (imp_cons (imp_c) imp_nil)) (imp_lst (imp_cons (imp_c) imp_nil))) (impt_name (i := 1)))
    (imps_seq (imps_if (imp_not (imp_test (imp_cb impn_all (imp_cons (imp_lc (impi_any (imp_sl impsl_cut (imp_var) (imp_part (imp_c)) imp_noPart)) (impt_name (i := 4)) imp_yes (imp_call rfl (imp_cons (imp_var) imp_nil))) imp_nil))))
      (imps_raise1 (imp_c))
      imps_next)
    (imps_seq (imps_asg (imp_cb impn_tuple (imp_cons (imp_lc (impi_any (imp_sl impsl_cut (imp_var) (imp_part (imp_c)) imp_noPart)) (impt_name (i := 4)) imp_yes (imp_cb impn_intS (imp_cons (imp_var) imp_nil))) imp_nil)) (impt_name (i := 2)))
    (imps_seq (imps_if (imp_test (imp_op impo_eq (imp_op impo_ix (imp_var) (imp_c)) (imp_c)))
      (imps_asg (imp_tup (imp_cons (imp_c) (imp_cons (imp_var) imp_nil))) (impt_name (i := 3)))
      (imps_if (imp_test (imp_op impo_in (imp_op impo_ix (imp_var) (imp_c)) (imp_tup (imp_cons (imp_c) (imp_cons (imp_c) imp_nil)))))
        (imps_asg (imp_tup (imp_cons (imp_op impo_ix (imp_var) (imp_c)) (imp_star (imp_var) imp_nil))) (impt_name (i := 3)))
        (imps_asg (imp_tup (imp_cons (imp_op impo_ix (imp_var) (imp_c)) (imp_cons (imp_if (imp_test (imp_op impo_eq (imp_cb impn_len (imp_cons (imp_var) imp_nil)) (imp_c))) (imp_op impo_ix (imp_var) (imp_c)) (imp_c)) imp_nil))) (impt_name (i := 3)))))
    (imps_seq (imps_if (imp_not (imp_test (imp_call rfl (imp_cons (imp_var) imp_nil))))
      (imps_raise1 (imp_c))
      imps_next)
    (imps_ret (imp_var)))))))
theorem ok__law_same {k : Nat} (T : Tx P K mg) {m__law_same : MF} (G__law_same : FnOk P w K mg base (L2.CX P w) k T.f__law_same T.fd__law_same ["_law_found", "_law_due"] (sp0 K (CtF m__law_same))) : FnOk P w K mg base (L2.CX P w) (k + 2) T.f__law_same T.fd__law_same ["_law_found", "_law_due"] (sp0 K (CtF (b__law_same m__law_same))) := by
  refine fn0 T.F__law_same sc__law_same (fun ds η Z Φ h => ctf_len h) fun cdv A outer s H E ds η Z Φ hr hc => ?_
  have hu := hr.units
  refine ⟨_, _, (pdss_cons (pds_if (pdt_val (pd_callB (kl_isi (K := K) (by rfl)) (by rfl) T.n_isinstance (by decide +kernel) (pda_cons (pd_var 1) (pda_cons (pd_type (T := "dict") (by rfl) T.n_dict (by decide +kernel)) pda_nil))))
      pdss_never
      pdss_nil)
    (pdss_cons (pds_if (pdt_val (pd_callB (kl_isi (K := K) (by rfl)) (by rfl) T.n_isinstance (by decide +kernel) (pda_cons (pd_var 1) (pda_cons (pd_tup (pda_cons (pd_type (T := "list") (by rfl) T.n_list (by decide +kernel)) (pda_cons (pd_type (T := "tuple") (by rfl) T.n_tuple (by decide +kernel)) pda_nil))) pda_nil))))
      (pdss_cons (pds_if (pdt_w (pdw_or (pdt_cmp (kd_ne (K := K) (by rfl) hu) (pd_callB (kl_isi (K := K) (by rfl)) (by rfl) T.n_isinstance (by decide +kernel) (pda_cons (pd_var 0) (pda_cons (pd_type (T := "list") (by rfl) T.n_list (by decide +kernel)) pda_nil))) (pd_callB (kl_isi (K := K) (by rfl)) (by rfl) T.n_isinstance (by decide +kernel) (pda_cons (pd_var 1) (pda_cons (pd_type (T := "list") (by rfl) T.n_list (by decide +kernel)) pda_nil))) (nomark _)) (pdw_or1 (pdt_cmp (kd_ne (K := K) (by rfl) hu) (pd_callB (kl_isi (K := K) (by rfl)) (by rfl) T.n_isinstance (by decide +kernel) (pda_cons (pd_var 0) (pda_cons (pd_type (T := "tuple") (by rfl) T.n_tuple (by decide +kernel)) pda_nil))) (pd_callB (kl_isi (K := K) (by rfl)) (by rfl) T.n_isinstance (by decide +kernel) (pda_cons (pd_var 1) (pda_cons (pd_type (T := "tuple") (by rfl) T.n_tuple (by decide +kernel)) pda_nil))) (nomark _)))))
        (pdss_one (pds_ret pd_bl))
        pdss_nil)
      (pdss_one (pds_ret (pd_and (pd_cmp (kd_eq (K := K) (by rfl) hu) (pd_callB (kl_len (K := K) (by rfl)) (by rfl) T.n_len (by decide +kernel) (pda_cons (pd_var 0) pda_nil)) (pd_callB (kl_len (K := K) (by rfl)) (by rfl) T.n_len (by decide +kernel) (pda_cons (pd_var 1) pda_nil)) (nomark _)) (pd_one (pd_callB (kl_all (K := K) (by rfl) rfl) (by rfl) T.n_all (by decide +kernel) (pda_cons (pd_lc (own := [("_law_one", 2), ("_law_two", 3)]) rfl sc__law_same.nd (kdi_zip (K := K) (by rfl) (by rfl) T.n_zip (pda_cons (pd_var 0) (pda_cons (pd_var 1) pda_nil))) (blkOk_by (N := n__law_same) (sc := defScope s__law_same) (by decide +kernel)) (fun _ _ _ _ _ => (kdg_tup (K := K) (n := 2) (by rfl) rfl (pdgs_cons (pdg_name (i := 2) sc__law_same.nd rfl (by first | exact Or.inl rfl | exact Or.inr rfl)) (pdgs_cons (pdg_name (i := 3) sc__law_same.nd rfl (by first | exact Or.inl rfl | exact Or.inr rfl)) pdgs_nil)))) (own_tup (owns_cons (own_name (by decide)) (owns_cons (own_name (by decide)) owns_nil mono_name) mono_name)) (fun _ _ _ _ _ => pdts_nil) (fun _ _ _ _ _ => (kd_call (by exact ⟨rfl, rfl, rfl, rfl, rfl⟩) G__law_same (hr.mono (by omega)) (by rfl) T.m__law_same T.F__law_same.kp T.b__law_same .nil (fun _ _ _ => .nil) (pda_cons (pd_var 2) (pda_cons (pd_var 3) pda_nil))))) pda_nil)))))))
      pdss_nil)
    (pdss_cons (pds_if (pdt_w (pdw_or (pdt_cmp od_isN (pd_var 1) pd_non (nomark _)) (pdw_or1 (pdt_cmp od_isN (pd_var 0) pd_non (nomark _)))))
      (pdss_one (pds_ret (pd_and (pd_cmp od_isN (pd_var 1) pd_non (nomark _)) (pd_one (pd_cmp od_isN (pd_var 0) pd_non (nomark _))))))
      pdss_nil)
    (pdss_cons (pds_if (pdt_w (pdw_or (pdt_cmp (kd_ne (K := K) (by rfl) hu) (pd_callB (kl_isi (K := K) (by rfl)) (by rfl) T.n_isinstance (by decide +kernel) (pda_cons (pd_var 0) (pda_cons (pd_type (T := "bool") (by rfl) T.n_bool (by decide +kernel)) pda_nil))) (pd_callB (kl_isi (K := K) (by rfl)) (by rfl) T.n_isinstance (by decide +kernel) (pda_cons (pd_var 1) (pda_cons (pd_type (T := "bool") (by rfl) T.n_bool (by decide +kernel)) pda_nil))) (nomark _)) (pdw_or1 (pdt_cmp (kd_ne (K := K) (by rfl) hu) (pd_callB (kl_isi (K := K) (by rfl)) (by rfl) T.n_isinstance (by decide +kernel) (pda_cons (pd_var 0) (pda_cons (pd_type (T := "int") (by rfl) T.n_int (by decide +kernel)) pda_nil))) (pd_callB (kl_isi (K := K) (by rfl)) (by rfl) T.n_isinstance (by decide +kernel) (pda_cons (pd_var 1) (pda_cons (pd_type (T := "int") (by rfl) T.n_int (by decide +kernel)) pda_nil))) (nomark _)))))
      (pdss_one (pds_ret pd_bl))
      pdss_nil)
    (pdss_one (pds_ret (pd_and (pd_cmp (kd_eq (K := K) (by rfl) hu) (pd_callB (kl_isi (K := K) (by rfl)) (by rfl) T.n_isinstance (by decide +kernel) (pda_cons (pd_var 0) (pda_cons (pd_type (T := "str") (by rfl) T.n_str (by decide +kernel)) pda_nil))) (pd_callB (kl_isi (K := K) (by rfl)) (by rfl) T.n_isinstance (by decide +kernel) (pda_cons (pd_var 1) (pda_cons (pd_type (T := "str") (by rfl) T.n_str (by decide +kernel)) pda_nil))) (nomark _)) (pd_one (pd_cmp (kd_eq (K := K) (by rfl) hu) (pd_var 0) (pd_var 1) (nomark _)))))))))), ctf_body (body := fb__law_same m__law_same) ?_ rfl hc⟩
  unfold fb__law_same
  exact (imps_seq (imps_if (imp_test (imp_cb impn_isi (imp_cons (imp_var) (imp_cons (imp_c) imp_nil))))
      imps_never
      imps_next)
    (imps_seq (imps_if (imp_test (imp_cb impn_isi (imp_cons (imp_var) (imp_cons (imp_tup (imp_cons (imp_c) (imp_cons (imp_c) imp_nil))) imp_nil))))
      (imps_seq (imps_if (imp_or (imp_test (imp_op impo_ne (imp_cb impn_isi (imp_cons (imp_var) (imp_cons (imp_c) imp_nil))) (imp_cb impn_isi (imp_cons (imp_var) (imp_cons (imp_c) imp_nil))))) (imp_test (imp_op impo_ne (imp_cb impn_isi (imp_cons (imp_var) (imp_cons (imp_c) imp_nil))) (imp_cb impn_isi (imp_cons (imp_var) (imp_cons (imp_c) imp_nil))))))
        (imps_ret (imp_c))
        imps_next)
      (imps_ret (imp_andV (imp_op impo_eq (imp_cb impn_len (imp_cons (imp_var) imp_nil)) (imp_cb impn_len (imp_cons (imp_var) imp_nil))) (imp_cb impn_all (imp_cons (imp_lc (impi_zip (imp_cons (imp_var) (imp_cons (imp_var) imp_nil))) (impt_tup (impts_cons (impt_name (i := 2)) (impts_cons (impt_name (i := 3)) impts_nil))) imp_yes (imp_call rfl (imp_cons (imp_var) (imp_cons (imp_var) imp_nil)))) imp_nil)))))
      imps_next)
    (imps_seq (imps_if (imp_or (imp_test (imp_op impo_isN (imp_var) (imp_c))) (imp_test (imp_op impo_isN (imp_var) (imp_c))))
      (imps_ret (imp_andV (imp_op impo_isN (imp_var) (imp_c)) (imp_op impo_isN (imp_var) (imp_c))))
      imps_next)
    (imps_seq (imps_if (imp_or (imp_test (imp_op impo_ne (imp_cb impn_isi (imp_cons (imp_var) (imp_cons (imp_c) imp_nil))) (imp_cb impn_isi (imp_cons (imp_var) (imp_cons (imp_c) imp_nil))))) (imp_test (imp_op impo_ne (imp_cb impn_isi (imp_cons (imp_var) (imp_cons (imp_c) imp_nil))) (imp_cb impn_isi (imp_cons (imp_var) (imp_cons (imp_c) imp_nil))))))
      (imps_ret (imp_c))
      imps_next)
    (imps_ret (imp_andV (imp_op impo_eq (imp_cb impn_isi (imp_cons (imp_var) (imp_cons (imp_c) imp_nil))) (imp_cb impn_isi (imp_cons (imp_var) (imp_cons (imp_c) imp_nil)))) (imp_op impo_eq (imp_var) (imp_var))))))))
theorem okq__law_field (T : Tx P K mg) : EXX.FnQ P w K mg base 1 T.f__law_field T.fd__law_field ["_law_e"] (sp0 K fun ds η Z Φ => CtF b__law_field ds η Z0 Φ) := by
  refine fn0Q T.F__law_field sc__law_field (fun ds η Z Φ h => ctf_len h) fun cdv A outer s H ds η Φ hr hc => ?_
  have hu := unitsH hr
  refine ⟨_, _, (pdss_cons (pds_if (pdt_cmp (kd_in (K := K) (by rfl) hu) (pd_xfld (pd_var 0)) (pd_tup (pda_cons (pd_str ⟨by decide +kernel, by decide +kernel⟩) (pda_cons (pd_str ⟨by decide +kernel, by decide +kernel⟩) (pda_cons (pd_str ⟨by decide +kernel, by decide +kernel⟩) (pda_cons (pd_str ⟨by decide +kernel, by decide +kernel⟩) pda_nil))))) (by rfl))
      (pdss_one (pds_ret (pd_xfld (pd_var 0))))
      pdss_nil)
    (pdss_cons (pds_if (pdt_cmp (kd_in (K := K) (by rfl) hu) (pd_xfld (pd_var 0)) (pd_tup (pda_cons (pd_str ⟨by decide +kernel, by decide +kernel⟩) (pda_cons (pd_str ⟨by decide +kernel, by decide +kernel⟩) (pda_cons (pd_str ⟨by decide +kernel, by decide +kernel⟩) (pda_cons (pd_str ⟨by decide +kernel, by decide +kernel⟩) (pda_cons (pd_str ⟨by decide +kernel, by decide +kernel⟩) (pda_cons (pd_str ⟨by decide +kernel, by decide +kernel⟩) (pda_cons (pd_str ⟨by decide +kernel, by decide +kernel⟩) (pda_cons (pd_str ⟨by decide +kernel, by decide +kernel⟩) (pda_cons (pd_str ⟨by decide +kernel, by decide +kernel⟩) pda_nil)))))))))) (by rfl))
      (pdss_one (pds_ret (pd_xfld (pd_var 0))))
      pdss_nil)
    (pdss_cons (pds_if (pdt_cmp (kd_in (K := K) (by rfl) hu) (pd_xfld (pd_var 0)) (pd_tup (pda_cons (pd_str ⟨by decide +kernel, by decide +kernel⟩) (pda_cons (pd_str ⟨by decide +kernel, by decide +kernel⟩) (pda_cons (pd_str ⟨by decide +kernel, by decide +kernel⟩) (pda_cons (pd_str ⟨by decide +kernel, by decide +kernel⟩) pda_nil))))) (by rfl))
      (pdss_one (pds_ret (pd_xfld (pd_var 0))))
      pdss_nil)
    (pdss_cons (pds_if (pdt_cmp (kd_eq (K := K) (by rfl) hu) (pd_xfld (pd_var 0)) (pd_str ⟨by decide +kernel, by decide +kernel⟩) (nomark _))
      (pdss_one (pds_ret (pd_xfld (pd_var 0))))
      pdss_nil)
    (pdss_cons (pds_if (pdt_cmp (kd_eq (K := K) (by rfl) hu) (pd_xfld (pd_var 0)) (pd_str ⟨by decide +kernel, by decide +kernel⟩) (nomark _))
      (pdss_one (pds_ret (pd_xfld (pd_var 0))))
      pdss_nil)
    (pdss_one (pds_ret (pd_ifExp (pdt_cmp (kd_eq (K := K) (by rfl) hu) (pd_xfld (pd_var 0)) (pd_str ⟨by decide +kernel, by decide +kernel⟩) (nomark _)) (pd_xfld (pd_var 0)) pd_non)))))))), ctf_body (body := fb__law_field) ?_ rfl hc⟩
  unfold fb__law_field
  exact (imps_seq (imps_if (imp_test (imp_op impo_in (imp_xf (cls_cons ⟨T.xf_InvalidText, T.xa_InvalidText_code⟩ (cls_cons ⟨T.xf_NothingLeft, T.xa_NothingLeft_code⟩ cls_nil)) (imp_var)) (imp_tup (imp_cons (imp_c) (imp_cons (imp_c) (imp_cons (imp_c) (imp_cons (imp_c) imp_nil)))))))
      (imps_ret (imp_xf (cls_cons ⟨T.xf_InvalidText, T.xa_InvalidText_given⟩ (cls_cons ⟨T.xf_NothingLeft, T.xa_NothingLeft_given⟩ cls_nil)) (imp_var)))
      imps_next)
    (imps_seq (imps_if (imp_test (imp_op impo_in (imp_xf (cls_cons ⟨T.xf_InvalidText, T.xa_InvalidText_code⟩ (cls_cons ⟨T.xf_NothingLeft, T.xa_NothingLeft_code⟩ cls_nil)) (imp_var)) (imp_tup (imp_cons (imp_c) (imp_cons (imp_c) (imp_cons (imp_c) (imp_cons (imp_c) (imp_cons (imp_c) (imp_cons (imp_c) (imp_cons (imp_c) (imp_cons (imp_c) (imp_cons (imp_c) imp_nil))))))))))))
      (imps_ret (imp_xf (cls_cons ⟨T.xf_InvalidText, T.xa_InvalidText_name⟩ (cls_cons ⟨T.xf_NothingLeft, T.xa_NothingLeft_name⟩ cls_nil)) (imp_var)))
      imps_next)
    (imps_seq (imps_if (imp_test (imp_op impo_in (imp_xf (cls_cons ⟨T.xf_InvalidText, T.xa_InvalidText_code⟩ (cls_cons ⟨T.xf_NothingLeft, T.xa_NothingLeft_code⟩ cls_nil)) (imp_var)) (imp_tup (imp_cons (imp_c) (imp_cons (imp_c) (imp_cons (imp_c) (imp_cons (imp_c) imp_nil)))))))
      (imps_ret (imp_xf (cls_cons ⟨T.xf_InvalidText, T.xa_InvalidText_at⟩ (cls_cons ⟨T.xf_NothingLeft, T.xa_NothingLeft_at⟩ cls_nil)) (imp_var)))
      imps_next)
    (imps_seq (imps_if (imp_test (imp_op impo_eq (imp_xf (cls_cons ⟨T.xf_InvalidText, T.xa_InvalidText_code⟩ (cls_cons ⟨T.xf_NothingLeft, T.xa_NothingLeft_code⟩ cls_nil)) (imp_var)) (imp_c)))
      (imps_ret (imp_xf (cls_cons ⟨T.xf_InvalidText, T.xa_InvalidText_most⟩ (cls_cons ⟨T.xf_NothingLeft, T.xa_NothingLeft_most⟩ cls_nil)) (imp_var)))
      imps_next)
    (imps_seq (imps_if (imp_test (imp_op impo_eq (imp_xf (cls_cons ⟨T.xf_InvalidText, T.xa_InvalidText_code⟩ (cls_cons ⟨T.xf_NothingLeft, T.xa_NothingLeft_code⟩ cls_nil)) (imp_var)) (imp_c)))
      (imps_ret (imp_xf (cls_cons ⟨T.xf_InvalidText, T.xa_InvalidText_limit⟩ (cls_cons ⟨T.xf_NothingLeft, T.xa_NothingLeft_limit⟩ cls_nil)) (imp_var)))
      imps_next)
    (imps_ret (imp_if (imp_test (imp_op impo_eq (imp_xf (cls_cons ⟨T.xf_InvalidText, T.xa_InvalidText_code⟩ (cls_cons ⟨T.xf_NothingLeft, T.xa_NothingLeft_code⟩ cls_nil)) (imp_var)) (imp_c))) (imp_xf (cls_cons ⟨T.xf_InvalidText, T.xa_InvalidText_line⟩ (cls_cons ⟨T.xf_NothingLeft, T.xa_NothingLeft_line⟩ cls_nil)) (imp_var)) (imp_c))))))))
theorem ok__law_pull {k : Nat} (T : Tx P K mg) : FnOk P w K mg base (L2.CX P w) (k + 2) T.f__law_pull T.fd__law_pull ["_law_bag_here", "_law_many"] (sp0 K (CtF b__law_pull)) := by
  refine fn0 T.F__law_pull sc__law_pull (fun ds η Z Φ h => ctf_len h) fun cdv A outer s H E ds η Z Φ hr hc => ?_
  have hu := hr.units
  refine ⟨_, _, (pdss_cons (pds_asg (pd_op (kd_add (K := K) (by rfl)) (pd_ix (kd_ix (K := K) (by rfl)) (pd_var 0) pd_int (fun _ _ => rfl)) pd_int) (pdg_sub (E := E0) (pd_var 0) pd_int std))
    (pdss_cons (pds_if (pdt_w (pdw_and (pdt_cmp (kd_eq (K := K) (by rfl) hu) (pd_ix (kd_ix (K := K) (by rfl)) (pd_var 0) pd_int (fun _ _ => rfl)) pd_int (nomark _)) (pdw_and1 (pdt_cmp od_lt (pd_ix (kd_ix (K := K) (by rfl)) (pd_var 0) pd_int (fun _ _ => rfl)) (pd_callB (kl_len (K := K) (by rfl)) (by rfl) T.n_len (by decide +kernel) (pda_cons (pd_ix (kd_ix (K := K) (by rfl)) (pd_var 0) pd_int (fun _ _ => rfl)) pda_nil)) (nomark _)))))
      (pdss_cons (pds_set (i := 2) sc__law_pull.nd rfl (by first | exact Or.inl rfl | exact Or.inr rfl) (pd_ix (kd_ix (K := K) (by rfl)) (pd_ix (kd_ix (K := K) (by rfl)) (pd_var 0) pd_int (fun _ _ => rfl)) (pd_ix (kd_ix (K := K) (by rfl)) (pd_var 0) pd_int (fun _ _ => rfl)) (fun _ _ => rfl)))
      (pdss_cons (pds_asg (pd_op (kd_add (K := K) (by rfl)) (pd_ix (kd_ix (K := K) (by rfl)) (pd_var 0) pd_int (fun _ _ => rfl)) pd_int) (pdg_sub (E := E0) (pd_var 0) pd_int std))
      (pdss_one (pds_if (pdt_cmp od_ge (pd_var 2) (pd_op od_pow pd_int pd_int) (nomark _))
        (pdss_one (pds_asg (pd_var 2) (pdg_sub (E := E0) (pd_var 0) pd_int std)))
        (pdss_one (pds_asg (pd_op od_mod (pd_callTy cl_int (by rfl) T.n_int (by decide +kernel) (pda_cons (pd_op (kd_add (K := K) (by rfl)) (pd_op (kd_add (K := K) (by rfl)) (pd_op od_mul (pd_ix (kd_ix (K := K) (by rfl)) (pd_var 0) pd_int (fun _ _ => rfl)) pd_int) (pd_op od_mul (pd_op od_mod (pd_callTy cl_int (by rfl) T.n_int (by decide +kernel) (pda_cons (pd_var 2) pda_nil)) pd_int) pd_int)) pd_int) pda_nil)) pd_int) (pdg_sub (E := E0) (pd_var 0) pd_int std)))))))
      pdss_nil)
    (pdss_cons (pds_if (pdt_cmp od_gt (pd_ix (kd_ix (K := K) (by rfl)) (pd_var 0) pd_int (fun _ _ => rfl)) pd_int (nomark _))
      (pdss_cons (pds_set (i := 3) sc__law_pull.nd rfl (by first | exact Or.inl rfl | exact Or.inr rfl) (pd_op od_mod (pd_callTy cl_int (by rfl) T.n_int (by decide +kernel) (pda_cons (pd_ix (kd_ix (K := K) (by rfl)) (pd_var 0) pd_int (fun _ _ => rfl)) pda_nil)) (pd_var 1)))
      (pdss_cons (pds_asg (pd_op od_fdiv (pd_ix (kd_ix (K := K) (by rfl)) (pd_var 0) pd_int (fun _ _ => rfl)) (pd_var 1)) (pdg_sub (E := E0) (pd_var 0) pd_int std))
      (pdss_one (pds_ret (pd_var 3)))))
      pdss_nil)
    (pdss_cons (pds_set (i := 4) sc__law_pull.nd rfl (by first | exact Or.inl rfl | exact Or.inr rfl) (pd_callTy cl_int (by rfl) T.n_int (by decide +kernel) (pda_cons (pd_ix (kd_ix (K := K) (by rfl)) (pd_var 0) pd_int (fun _ _ => rfl)) pda_nil)))
    (pdss_cons (pds_asg (pd_op od_mod (pd_callTy cl_int (by rfl) T.n_int (by decide +kernel) (pda_cons (pd_op (kd_add (K := K) (by rfl)) (pd_op (kd_add (K := K) (by rfl)) (pd_op (kd_add (K := K) (by rfl)) (pd_op od_pow (pd_var 4) pd_int) (pd_op od_mul (pd_var 4) pd_int)) (pd_op od_mul (pd_ix (kd_ix (K := K) (by rfl)) (pd_var 0) pd_int (fun _ _ => rfl)) pd_int)) pd_int) pda_nil)) pd_int) (pdg_sub (E := E0) (pd_var 0) pd_int std))
    (pdss_one (pds_ret (pd_op od_mod (pd_callTy cl_int (by rfl) T.n_int (by decide +kernel) (pda_cons (pd_op (kd_add (K := K) (by rfl)) (pd_op od_fdiv (pd_ix (kd_ix (K := K) (by rfl)) (pd_var 0) pd_int (fun _ _ => rfl)) pd_int) (pd_op od_mul (pd_op od_mod (pd_callTy cl_int (by rfl) T.n_int (by decide +kernel) (pda_cons (pd_ix (kd_ix (K := K) (by rfl)) (pd_var 0) pd_int (fun _ _ => rfl)) pda_nil)) pd_int) pd_int)) pda_nil)) (pd_var 1))))))))), ctf_body (body := fb__law_pull) ?_ rfl hc⟩
  unfold fb__law_pull
  exact (imps_seq (imps_asg (imp_op impo_add (imp_op impo_ix (imp_var) (imp_c)) (imp_c)) (impt_sub imps_setL (imp_var) (imp_c)))
    (imps_seq (imps_if (imp_and (imp_test (imp_op impo_eq (imp_op impo_ix (imp_var) (imp_c)) (imp_c))) (imp_test (imp_op impo_lt (imp_op impo_ix (imp_var) (imp_c)) (imp_cb impn_len (imp_cons (imp_op impo_ix (imp_var) (imp_c)) imp_nil)))))
      (imps_seq (imps_asg (imp_op impo_ix (imp_op impo_ix (imp_var) (imp_c)) (imp_op impo_ix (imp_var) (imp_c))) (impt_name (i := 2)))
      (imps_seq (imps_asg (imp_op impo_add (imp_op impo_ix (imp_var) (imp_c)) (imp_c)) (impt_sub imps_setL (imp_var) (imp_c)))
      (imps_if (imp_test (imp_op impo_ge (imp_var) (imp_op impo_pow (imp_c) (imp_c))))
        (imps_asg (imp_var) (impt_sub imps_setL (imp_var) (imp_c)))
        (imps_asg (imp_op impo_mod (imp_cb impn_int (imp_cons (imp_op impo_add (imp_op impo_add (imp_op impo_mul (imp_op impo_ix (imp_var) (imp_c)) (imp_c)) (imp_op impo_mul (imp_op impo_mod (imp_cb impn_int (imp_cons (imp_var) imp_nil)) (imp_c)) (imp_c))) (imp_c)) imp_nil)) (imp_c)) (impt_sub imps_setL (imp_var) (imp_c))))))
      imps_next)
    (imps_seq (imps_if (imp_test (imp_op impo_gt (imp_op impo_ix (imp_var) (imp_c)) (imp_c)))
      (imps_seq (imps_asg (imp_op impo_mod (imp_cb impn_int (imp_cons (imp_op impo_ix (imp_var) (imp_c)) imp_nil)) (imp_var)) (impt_name (i := 3)))
      (imps_seq (imps_asg (imp_op impo_div (imp_op impo_ix (imp_var) (imp_c)) (imp_var)) (impt_sub imps_setL (imp_var) (imp_c)))
      (imps_ret (imp_var))))
      imps_next)
    (imps_seq (imps_asg (imp_cb impn_int (imp_cons (imp_op impo_ix (imp_var) (imp_c)) imp_nil)) (impt_name (i := 4)))
    (imps_seq (imps_asg (imp_op impo_mod (imp_cb impn_int (imp_cons (imp_op impo_add (imp_op impo_add (imp_op impo_add (imp_op impo_pow (imp_var) (imp_c)) (imp_op impo_mul (imp_var) (imp_c))) (imp_op impo_mul (imp_op impo_ix (imp_var) (imp_c)) (imp_c))) (imp_c)) imp_nil)) (imp_c)) (impt_sub imps_setL (imp_var) (imp_c)))
    (imps_ret (imp_op impo_mod (imp_cb impn_int (imp_cons (imp_op impo_add (imp_op impo_div (imp_op impo_ix (imp_var) (imp_c)) (imp_c)) (imp_op impo_mul (imp_op impo_mod (imp_cb impn_int (imp_cons (imp_op impo_ix (imp_var) (imp_c)) imp_nil)) (imp_c)) (imp_c))) imp_nil)) (imp_var))))))))
theorem ok__law_of {k : Nat} (T : Tx P K mg) {m__law_pull : MF} (G__law_pull : FnOk P w K mg base (L2.CX P w) k T.f__law_pull T.fd__law_pull ["_law_bag_here", "_law_many"] (sp0 K (CtF m__law_pull))) : FnOk P w K mg base (L2.CX P w) (k + 2) T.f__law_of T.fd__law_of ["_law_bag_here", "_law_some"] (sp0 K (CtF (b__law_of m__law_pull))) := by
  refine fn0 T.F__law_of sc__law_of (fun ds η Z Φ h => ctf_len h) fun cdv A outer s H E ds η Z Φ hr hc => ?_
  have hu := hr.units
  refine ⟨_, _, (pdss_one (pds_ret (pd_ix (kd_ix (K := K) (by rfl)) (pd_var 1) (kd_call (by exact ⟨rfl, rfl, rfl, rfl, rfl⟩) G__law_pull (hr.mono (by omega)) (by rfl) T.m__law_pull T.F__law_pull.kp T.b__law_pull .nil (fun _ _ _ => .nil) (pda_cons (pd_var 0) (pda_cons (pd_callB (kl_len (K := K) (by rfl)) (by rfl) T.n_len (by decide +kernel) (pda_cons (pd_var 1) pda_nil)) pda_nil))) (fun _ _ => rfl)))), ctf_body (body := fb__law_of m__law_pull) ?_ rfl hc⟩
  unfold fb__law_of
  exact (imps_ret (imp_op impo_ix (imp_var) (imp_call rfl (imp_cons (imp_var) (imp_cons (imp_cb impn_len (imp_cons (imp_var) imp_nil)) imp_nil)))))
theorem ok__law_number_so {k : Nat} (T : Tx P K mg) : FnOk P w K mg base (L2.CX P w) (k + 2) T.f__law_number_so T.fd__law_number_so ["_law_word"] (sp0 K (CtF b__law_number_so)) := by
  refine fn0 T.F__law_number_so sc__law_number_so (fun ds η Z Φ h => ctf_len h) fun cdv A outer s H E ds η Z Φ hr hc => ?_
  have hu := hr.units
  refine ⟨_, _, (pdss_cons (pds_if (pdt_w (pdw_or (pdt_not (pdt_chain od_le od_le pd_int (pd_callB (kl_len (K := K) (by rfl)) (by rfl) T.n_len (by decide +kernel) (pda_cons (pd_var 0) pda_nil)) pd_int)) (pdw_or1 (pdt_not (pdt_val (pd_callB (kl_all (K := K) (by rfl) rfl) (by rfl) T.n_all (by decide +kernel) (pda_cons (pd_lc (own := [("_law_sign", 1)]) rfl sc__law_number_so.nd (kdi_any (K := K) (by rfl) (pd_var 0)) (blkOk_by (N := n__law_number_so) (sc := defScope s__law_number_so) (by decide +kernel)) (fun _ _ _ _ _ => (pdg_name (i := 1) sc__law_number_so.nd rfl (by first | exact Or.inl rfl | exact Or.inr rfl))) (own_name (by decide)) (fun _ _ _ _ _ => pdts_nil) (fun _ _ _ _ _ => (pd_cmp (kd_in (K := K) (by rfl) hu) (pd_var 1) (pd_str ⟨by decide +kernel, by decide +kernel⟩) (by rfl)))) pda_nil)))))))
      (pdss_one (pds_ret pd_bl))
      pdss_nil)
    (pdss_one (pds_ret (pd_or (pd_cmp (kd_eq (K := K) (by rfl) hu) (pd_var 0) (pd_str ⟨by decide +kernel, by decide +kernel⟩) (nomark _)) (pd_one (pd_cmp (kd_ne (K := K) (by rfl) hu) (pd_ix (kd_ix (K := K) (by rfl)) (pd_var 0) pd_int (fun _ _ => rfl)) (pd_str ⟨by decide +kernel, by decide +kernel⟩) (nomark _))))))), ctf_body (body := fb__law_number_so) ?_ rfl hc⟩
  unfold fb__law_number_so
  exact (imps_seq (imps_if (imp_or (imp_not (imp_test (imp_chain impo_le impo_le (imp_c) (imp_cb impn_len (imp_cons (imp_var) imp_nil)) (imp_c)))) (imp_not (imp_test (imp_cb impn_all (imp_cons (imp_lc (impi_any (imp_var)) (impt_name (i := 1)) imp_yes (imp_op impo_in (imp_var) (imp_c))) imp_nil)))))
      (imps_ret (imp_c))
      imps_next)
    (imps_ret (imp_orV (imp_op impo_eq (imp_var) (imp_c)) (imp_op impo_ne (imp_op impo_ix (imp_var) (imp_c)) (imp_c)))))
theorem ok__law_event_of {k : Nat} (T : Tx P K mg) {m__law_number_so : MF} (G__law_number_so : FnOk P w K mg base (L2.CX P w) k T.f__law_number_so T.fd__law_number_so ["_law_word"] (sp0 K (CtF m__law_number_so))) : FnOk P w K mg base (L2.CX P w) (k + 2) T.f__law_event_of T.fd__law_event_of ["_law_term"] (sp0 K (CtF (b__law_event_of m__law_number_so))) := by
  refine fn0 T.F__law_event_of sc__law_event_of (fun ds η Z Φ h => ctf_len h) fun cdv A outer s H E ds η Z Φ hr hc => ?_
  have hu := hr.units
  refine ⟨_, _, (pdss_cons (pds_set (i := 1) sc__law_event_of.nd rfl (by first | exact Or.inl rfl | exact Or.inr rfl) (kd_split (pd_var 0) (pda_cons (pd_str ⟨by decide +kernel, by decide +kernel⟩) pda_nil)))
    (pdss_cons (pds_if (pdt_cmp (kd_in (K := K) (by rfl) hu) (pd_var 0) (pd_tup (pda_cons (pd_str ⟨by decide +kernel, by decide +kernel⟩) (pda_cons (pd_str ⟨by decide +kernel, by decide +kernel⟩) pda_nil))) (by rfl))
      (pdss_one (pds_ret (pd_tup (pda_cons (pd_var 0) pda_nil))))
      pdss_nil)
    (pdss_cons (pds_if (pdt_not (pdt_val (pd_callB (kl_all (K := K) (by rfl) rfl) (by rfl) T.n_all (by decide +kernel) (pda_cons (pd_lc (own := [("_law_word", 5)]) rfl sc__law_event_of.nd (kdi_any (K := K) (by rfl) (pd_slice (kd_sl (K := K) (by rfl)) (pd_var 1) (pdo_some pd_int) pdo_none)) (blkOk_by (N := n__law_event_of) (sc := defScope s__law_event_of) (by decide +kernel)) (fun _ _ _ _ _ => (pdg_name (i := 5) sc__law_event_of.nd rfl (by first | exact Or.inl rfl | exact Or.inr rfl))) (own_name (by decide)) (fun _ _ _ _ _ => pdts_nil) (fun _ _ _ _ _ => (kd_call (by exact ⟨rfl, rfl, rfl, rfl, rfl⟩) G__law_number_so (hr.mono (by omega)) (by rfl) T.m__law_number_so T.F__law_number_so.kp T.b__law_number_so .nil (fun _ _ _ => .nil) (pda_cons (pd_var 5) pda_nil)))) pda_nil))))
      (pdss_one (pds_ret pd_non))
      pdss_nil)
    (pdss_cons (pds_setLc (i := 2) (own := [("_law_word", 5)]) rfl sc__law_event_of.nd rfl rfl (sw_true rfl rfl rfl (by decide +kernel)) (kdi_any (K := K) (by rfl) (pd_slice (kd_sl (K := K) (by rfl)) (pd_var 1) (pdo_some pd_int) pdo_none)) (blkOk_by (N := n__law_event_of) (sc := defScope s__law_event_of) (by decide +kernel)) (fun _ _ _ _ _ => (pdg_name (i := 5) sc__law_event_of.nd rfl (by first | exact Or.inl rfl | exact Or.inr rfl))) (own_name (by decide)) (fun _ _ _ _ _ => pdts_nil) (fun _ _ _ _ _ => (pd_callTy cl_intS (by rfl) T.n_int (by decide +kernel) (pda_cons (pd_var 5) pda_nil))))
    (pdss_cons (pds_if (pdt_cmp (kd_eq (K := K) (by rfl) hu) (pd_ix (kd_ix (K := K) (by rfl)) (pd_var 1) pd_int (fun _ _ => rfl)) (pd_str ⟨by decide +kernel, by decide +kernel⟩) (nomark _))
      (pdss_cons (pds_set (i := 3) sc__law_event_of.nd rfl (by first | exact Or.inl rfl | exact Or.inr rfl) (pd_and (pd_chain od_le od_le pd_int (pd_callB (kl_len (K := K) (by rfl)) (by rfl) T.n_len (by decide +kernel) (pda_cons (pd_var 2) pda_nil)) pd_int) (pd_one (pd_callB (kl_all (K := K) (by rfl) rfl) (by rfl) T.n_all (by decide +kernel) (pda_cons (pd_lc (own := [("_law_byte", 6)]) rfl sc__law_event_of.nd (kdi_any (K := K) (by rfl) (pd_var 2)) (blkOk_by (N := n__law_event_of) (sc := defScope s__law_event_of) (by decide +kernel)) (fun _ _ _ _ _ => (pdg_name (i := 6) sc__law_event_of.nd rfl (by first | exact Or.inl rfl | exact Or.inr rfl))) (own_name (by decide)) (fun _ _ _ _ _ => pdts_nil) (fun _ _ _ _ _ => (pd_cmp od_lt (pd_var 6) pd_int (nomark _)))) pda_nil)))))
      (pdss_one (pds_ret (pd_ifExp (pdt_val (pd_var 3)) (pd_tup (pda_cons (pd_str ⟨by decide +kernel, by decide +kernel⟩) (pda_cons (pd_callTy (kl_tuple (K := K) (by rfl)) (by rfl) T.n_tuple (by decide +kernel) (pda_cons (pd_var 2) pda_nil)) pda_nil))) pd_non))))
      pdss_nil)
    (pdss_cons (pds_set (i := 4) sc__law_event_of.nd rfl (by first | exact Or.inl rfl | exact Or.inr rfl) (pd_disp (.cons (pd_str ⟨by decide +kernel, by decide +kernel⟩) pd_int (.cons (pd_str ⟨by decide +kernel, by decide +kernel⟩) pd_int .nil)) (by rfl) (by rfl) (by intro z; cases z) (Nat.le_of_ble_eq_true rfl)))
    (pdss_cons (pds_if (pdt_w (pdw_or (pdt_dnotIn hu (pd_ix (kd_ix (K := K) (by rfl)) (pd_var 1) pd_int (fun _ _ => rfl)) (pd_var 4)) (pdw_or (pdt_cmp (kd_ne (K := K) (by rfl) hu) (pd_callB (kl_len (K := K) (by rfl)) (by rfl) T.n_len (by decide +kernel) (pda_cons (pd_var 2) pda_nil)) pd_int (nomark _)) (pdw_or1 (pdt_cmp od_gt (pd_ix (kd_ix (K := K) (by rfl)) (pd_var 2) pd_int (fun _ _ => rfl)) (pd_dget hu (pd_var 4) (pd_ix (kd_ix (K := K) (by rfl)) (pd_var 1) pd_int (fun _ _ => rfl))) (nomark _))))))
      (pdss_one (pds_ret pd_non))
      pdss_nil)
    (pdss_one (pds_ret (pd_tup (pda_cons (pd_ix (kd_ix (K := K) (by rfl)) (pd_var 1) pd_int (fun _ _ => rfl)) (pda_cons (pd_ix (kd_ix (K := K) (by rfl)) (pd_var 2) pd_int (fun _ _ => rfl)) pda_nil)))))))))))), ctf_body (body := fb__law_event_of m__law_number_so) ?_ rfl hc⟩
  unfold fb__law_event_of
  exact (imps_seq (imps_asg (imp_mA impma_split (imp_var) (imp_cons (imp_c) imp_nil)) (impt_name (i := 1)))
    (imps_seq (imps_if (imp_test (imp_op impo_in (imp_var) (imp_tup (imp_cons (imp_c) (imp_cons (imp_c) imp_nil)))))
      (imps_ret (imp_tup (imp_cons (imp_var) imp_nil)))
      imps_next)
    (imps_seq (imps_if (imp_not (imp_test (imp_cb impn_all (imp_cons (imp_lc (impi_any (imp_sl impsl_cut (imp_var) (imp_part (imp_c)) imp_noPart)) (impt_name (i := 5)) imp_yes (imp_call rfl (imp_cons (imp_var) imp_nil))) imp_nil))))
      (imps_ret (imp_c))
      imps_next)
    (imps_seq (imps_asg (imp_lc (impi_any (imp_sl impsl_cut (imp_var) (imp_part (imp_c)) imp_noPart)) (impt_name (i := 5)) imp_yes (imp_cb impn_intS (imp_cons (imp_var) imp_nil))) (impt_name (i := 2)))
    (imps_seq (imps_if (imp_test (imp_op impo_eq (imp_op impo_ix (imp_var) (imp_c)) (imp_c)))
      (imps_seq (imps_asg (imp_andV (imp_chain impo_le impo_le (imp_c) (imp_cb impn_len (imp_cons (imp_var) imp_nil)) (imp_c)) (imp_cb impn_all (imp_cons (imp_lc (impi_any (imp_var)) (impt_name (i := 6)) imp_yes (imp_op impo_lt (imp_var) (imp_c))) imp_nil))) (impt_name (i := 3)))
      (imps_ret (imp_if (imp_test (imp_var)) (imp_tup (imp_cons (imp_c) (imp_cons (imp_cb impn_tuple (imp_cons (imp_var) imp_nil)) imp_nil))) (imp_c))))
      imps_next)
    (imps_seq (imps_asg (imp_disp (.cons (imp_c) (imp_c) (.cons (imp_c) (imp_c) .nil))) (impt_name (i := 4)))
    (imps_seq (imps_if (imp_or (imp_test (imp_op impo_din (imp_op impo_ix (imp_var) (imp_c)) (imp_var))) (imp_or (imp_test (imp_op impo_ne (imp_cb impn_len (imp_cons (imp_var) imp_nil)) (imp_c))) (imp_test (imp_op impo_gt (imp_op impo_ix (imp_var) (imp_c)) (imp_op impo_dget (imp_var) (imp_op impo_ix (imp_var) (imp_c)))))))
      (imps_ret (imp_c))
      imps_next)
    (imps_ret (imp_tup (imp_cons (imp_op impo_ix (imp_var) (imp_c)) (imp_cons (imp_op impo_ix (imp_var) (imp_c)) imp_nil)))))))))))
theorem ok_event_text {k : Nat} (T : Tx P K mg) : FnOk P w K mg base (L2.CX P w) (k + 2) T.f_event_text T.fd_event_text ["event"] (sp0 K (CtF b_event_text)) := by
  refine fn0 T.F_event_text sc_event_text (fun ds η Z Φ h => ctf_len h) fun cdv A outer s H E ds η Z Φ hr hc => ?_
  have hu := hr.units
  refine ⟨_, _, (pdss_cons (pds_if (pdt_cmp (kd_eq (K := K) (by rfl) hu) (pd_ix (kd_ix (K := K) (by rfl)) (pd_var 0) pd_int (fun _ _ => rfl)) (pd_str ⟨by decide +kernel, by decide +kernel⟩) (nomark _))
      (pdss_one (pds_ret (pd_joined (.cons (pd_str ⟨by decide +kernel, by decide +kernel⟩) (.cons (pd_fmt (kd_join (K := K) (by rfl) (pd_str ⟨by decide +kernel, by decide +kernel⟩) (pd_lc (own := [("byte", 1)]) rfl sc_event_text.nd (kdi_any (K := K) (by rfl) (pd_ix (kd_ix (K := K) (by rfl)) (pd_var 0) pd_int (fun _ _ => rfl))) (blkOk_by (N := n_event_text) (sc := defScope s_event_text) (by decide +kernel)) (fun _ _ _ _ _ => (pdg_name (i := 1) sc_event_text.nd rfl (by first | exact Or.inl rfl | exact Or.inr rfl))) (own_name (by decide)) (fun _ _ _ _ _ => pdts_nil) (fun _ _ _ _ _ => (pd_callTy cl_strI (by rfl) T.n_str (by decide +kernel) (pda_cons (pd_var 1) pda_nil)))))) .nil)))))
      pdss_nil)
    (pdss_one (pds_ret (pd_ifExp (pdt_cmp (kd_eq (K := K) (by rfl) hu) (pd_callB (kl_len (K := K) (by rfl)) (by rfl) T.n_len (by decide +kernel) (pda_cons (pd_var 0) pda_nil)) pd_int (nomark _)) (pd_ix (kd_ix (K := K) (by rfl)) (pd_var 0) pd_int (fun _ _ => rfl)) (pd_joined (.cons (pd_fmt (pd_ix (kd_ix (K := K) (by rfl)) (pd_var 0) pd_int (fun _ _ => rfl))) (.cons (pd_str ⟨by decide +kernel, by decide +kernel⟩) (.cons (pd_fmt (pd_ix (kd_ix (K := K) (by rfl)) (pd_var 0) pd_int (fun _ _ => rfl))) .nil)))))))), ctf_body (body := fb_event_text) ?_ rfl hc⟩
  unfold fb_event_text
  exact (imps_seq (imps_if (imp_test (imp_op impo_eq (imp_op impo_ix (imp_var) (imp_c)) (imp_c)))
      (imps_ret (imp_j (.cons (imp_c) (.cons (imp_fmt (imp_m1 impm_join (imp_c) (imp_lc (impi_any (imp_op impo_ix (imp_var) (imp_c))) (impt_name (i := 1)) imp_yes (imp_cb impn_strI (imp_cons (imp_var) imp_nil))))) .nil))))
      imps_next)
    (imps_ret (imp_if (imp_test (imp_op impo_eq (imp_cb impn_len (imp_cons (imp_var) imp_nil)) (imp_c))) (imp_op impo_ix (imp_var) (imp_c)) (imp_j (.cons (imp_fmt (imp_op impo_ix (imp_var) (imp_c))) (.cons (imp_c) (.cons (imp_fmt (imp_op impo_ix (imp_var) (imp_c))) .nil)))))))
theorem ok__law_event_text {k : Nat} (T : Tx P K mg) : FnOk P w K mg base (L2.CX P w) (k + 2) T.f__law_event_text T.fd__law_event_text ["_law_event"] (sp0 K (CtF b__law_event_text)) := by
  refine fn0 T.F__law_event_text sc__law_event_text (fun ds η Z Φ h => ctf_len h) fun cdv A outer s H E ds η Z Φ hr hc => ?_
  have hu := hr.units
  refine ⟨_, _, (pdss_cons (pds_if (pdt_cmp (kd_eq (K := K) (by rfl) hu) (pd_ix (kd_ix (K := K) (by rfl)) (pd_var 0) pd_int (fun _ _ => rfl)) (pd_str ⟨by decide +kernel, by decide +kernel⟩) (nomark _))
      (pdss_one (pds_ret (kd_join (K := K) (by rfl) (pd_str ⟨by decide +kernel, by decide +kernel⟩) (pd_op (kd_add (K := K) (by rfl)) (pd_lst (pda_cons (pd_str ⟨by decide +kernel, by decide +kernel⟩) pda_nil)) (pd_lc (own := [("_law_byte", 1)]) rfl sc__law_event_text.nd (kdi_any (K := K) (by rfl) (pd_ix (kd_ix (K := K) (by rfl)) (pd_var 0) pd_int (fun _ _ => rfl))) (blkOk_by (N := n__law_event_text) (sc := defScope s__law_event_text) (by decide +kernel)) (fun _ _ _ _ _ => (pdg_name (i := 1) sc__law_event_text.nd rfl (by first | exact Or.inl rfl | exact Or.inr rfl))) (own_name (by decide)) (fun _ _ _ _ _ => pdts_nil) (fun _ _ _ _ _ => (pd_callTy cl_strI (by rfl) T.n_str (by decide +kernel) (pda_cons (pd_var 1) pda_nil))))))))
      pdss_nil)
    (pdss_one (pds_ret (kd_join (K := K) (by rfl) (pd_str ⟨by decide +kernel, by decide +kernel⟩) (pd_lc (own := [("_law_one", 2)]) rfl sc__law_event_text.nd (kdi_any (K := K) (by rfl) (pd_var 0)) (blkOk_by (N := n__law_event_text) (sc := defScope s__law_event_text) (by decide +kernel)) (fun _ _ _ _ _ => (pdg_name (i := 2) sc__law_event_text.nd rfl (by first | exact Or.inl rfl | exact Or.inr rfl))) (own_name (by decide)) (fun _ _ _ _ _ => pdts_nil) (fun _ _ _ _ _ => (pd_callTy cl_strI (by rfl) T.n_str (by decide +kernel) (pda_cons (pd_var 2) pda_nil)))))))), ctf_body (body := fb__law_event_text) ?_ rfl hc⟩
  unfold fb__law_event_text
  exact (imps_seq (imps_if (imp_test (imp_op impo_eq (imp_op impo_ix (imp_var) (imp_c)) (imp_c)))
      (imps_ret (imp_m1 impm_join (imp_c) (imp_op impo_add (imp_lst (imp_cons (imp_c) imp_nil)) (imp_lc (impi_any (imp_op impo_ix (imp_var) (imp_c))) (impt_name (i := 1)) imp_yes (imp_cb impn_strI (imp_cons (imp_var) imp_nil))))))
      imps_next)
    (imps_ret (imp_m1 impm_join (imp_c) (imp_lc (impi_any (imp_var)) (impt_name (i := 2)) imp_yes (imp_cb impn_strI (imp_cons (imp_var) imp_nil))))))
theorem ok__law_bag {k : Nat} (T : Tx P K mg) : FnOk P w K mg base (L2.CX P w) (k + 2) T.f__law_bag T.fd__law_bag ["_law_script"] (sp0 K (CtF b__law_bag)) := by
  refine fn0 T.F__law_bag sc__law_bag (fun ds η Z Φ h => ctf_len h) fun cdv A outer s H E ds η Z Φ hr hc => ?_
  have hu := hr.units
  refine ⟨_, _, (pdss_cons (pds_set (i := 1) sc__law_bag.nd rfl (by first | exact Or.inl rfl | exact Or.inr rfl) pd_int)
    (pdss_cons (pds_for (passes_of rfl) rfl (kdi_any (K := K) (by rfl) (pd_slice (kd_sl (K := K) (by rfl)) (pd_var 0) pdo_none (pdo_some pd_int))) (pdg_name (i := 2) sc__law_bag.nd rfl (by first | exact Or.inl rfl | exact Or.inr rfl))
      (pdss_one (pds_set (i := 1) sc__law_bag.nd rfl (by first | exact Or.inl rfl | exact Or.inr rfl) (pd_op od_mod (pd_callTy cl_int (by rfl) T.n_int (by decide +kernel) (pda_cons (pd_op (kd_add (K := K) (by rfl)) (pd_op (kd_add (K := K) (by rfl)) (pd_op od_mul (pd_var 1) pd_int) (pd_op od_mod (pd_callTy cl_int (by rfl) T.n_int (by decide +kernel) (pda_cons (pd_var 2) pda_nil)) pd_int)) pd_int) pda_nil)) pd_int))))
    (pdss_one (pds_ret (pd_lstM (pda_cons (pd_callTy (kl_list (K := K) (by rfl)) (by rfl) T.n_list (by decide +kernel) (pda_cons (pd_slice (kd_sl (K := K) (by rfl)) (pd_var 0) pdo_none (pdo_some pd_int)) pda_nil)) (pda_cons pd_int (pda_cons pd_int (pda_cons (pd_var 1) (pda_cons pd_int pda_nil)))))))))), ctf_body (body := fb__law_bag) ?_ rfl hc⟩
  unfold fb__law_bag
  exact (imps_seq (imps_asg (imp_c) (impt_name (i := 1)))
    (imps_seq (imps_for (impi_any (imp_sl impsl_cut (imp_var) imp_noPart (imp_part (imp_c)))) (impt_name (i := 2))
      (imps_asg (imp_op impo_mod (imp_cb impn_int (imp_cons (imp_op impo_add (imp_op impo_add (imp_op impo_mul (imp_var) (imp_c)) (imp_op impo_mod (imp_cb impn_int (imp_cons (imp_var) imp_nil)) (imp_c))) (imp_c)) imp_nil)) (imp_c)) (impt_name (i := 1))))
    (imps_ret (imp_lstM (imp_cons (imp_cb impn_list (imp_cons (imp_sl impsl_cut (imp_var) imp_noPart (imp_part (imp_c))) imp_nil)) (imp_cons (imp_c) (imp_cons (imp_c) (imp_cons (imp_var) (imp_cons (imp_c) imp_nil)))))))))
theorem ok_law {k : Nat} (T : Tx P K mg) {m_read_event : MF} (G_read_event : FnOk P w K mg base (L2.CX P w) k T.f_read_event T.fd_read_event ["text"] (sp0 K (CtF m_read_event))) {m__law_same : MF} (G__law_same : FnOk P w K mg base (L2.CX P w) k T.f__law_same T.fd__law_same ["_law_found", "_law_due"] (sp0 K (CtF m__law_same))) {m__law_field : MF} (Q__law_field : EXX.FnQ P w K mg base 1 T.f__law_field T.fd__law_field ["_law_e"] (sp0 K fun ds η Z Φ => CtF m__law_field ds η Z0 Φ)) {m__law_of : MF} (G__law_of : FnOk P w K mg base (L2.CX P w) k T.f__law_of T.fd__law_of ["_law_bag_here", "_law_some"] (sp0 K (CtF m__law_of))) {m__law_event_of : MF} (G__law_event_of : FnOk P w K mg base (L2.CX P w) k T.f__law_event_of T.fd__law_event_of ["_law_term"] (sp0 K (CtF m__law_event_of))) {m__law_pull : MF} (G__law_pull : FnOk P w K mg base (L2.CX P w) k T.f__law_pull T.fd__law_pull ["_law_bag_here", "_law_many"] (sp0 K (CtF m__law_pull))) {m_event_text : MF} (G_event_text : FnOk P w K mg base (L2.CX P w) k T.f_event_text T.fd_event_text ["event"] (sp0 K (CtF m_event_text))) {m__law_event_text : MF} (G__law_event_text : FnOk P w K mg base (L2.CX P w) k T.f__law_event_text T.fd__law_event_text ["_law_event"] (sp0 K (CtF m__law_event_text))) {m__law_bag : MF} (G__law_bag : FnOk P w K mg base (L2.CX P w) k T.f__law_bag T.fd__law_bag ["_law_script"] (sp0 K (CtF m__law_bag))) (TB_law : LamX.TabB base mg T.cc_law T.P_law) : FnOk P w K mg base (L2.CX P w) (k + 4) T.f_law T.fd_law ["_law_script"] (sp0 K (CtF (b_law m_read_event m__law_same m__law_field m__law_of m__law_event_of m__law_pull m_event_text m__law_event_text m__law_bag))) := by
  refine fn0C T.F_law sc_law (fun ds η Z Φ h => ctf_len h) fun A outer s H E ds η Z Φ hr hc => ?_
  have hu := hr.units
  refine ⟨_, _, (pdss_cons (pds_set (i := 1) sc_law.nd rfl (by first | exact Or.inl rfl | exact Or.inr rfl) (kd_call (by exact ⟨rfl, rfl, rfl, rfl, rfl⟩) G__law_bag (hr.mono (by omega)) (by rfl) T.m__law_bag T.F__law_bag.kp T.b__law_bag .nil (fun _ _ _ => .nil) (pda_cons (pd_var 0) pda_nil)))
    (pdss_cons (pds_for (passes_of rfl) rfl (pdi_range1 (by rfl) T.n_range (pda_cons pd_int pda_nil)) (pdg_name (i := 2) sc_law.nd rfl (by first | exact Or.inl rfl | exact Or.inr rfl))
      (pdss_cons (pds_set (i := 3) sc_law.nd rfl (by first | exact Or.inl rfl | exact Or.inr rfl) (pd_tup (pda_cons (pd_str ⟨by decide +kernel, by decide +kernel⟩) (pda_cons (pd_callTy (kl_tuple (K := K) (by rfl)) (by rfl) T.n_tuple (by decide +kernel) (pda_cons (pd_lc (own := [("_law_k", 12)]) rfl sc_law.nd (pdi_range1 (by rfl) T.n_range (pda_cons (pd_op (kd_add (K := K) (by rfl)) pd_int (kd_call (by exact ⟨rfl, rfl, rfl, rfl, rfl⟩) G__law_pull (hr.mono (by omega)) (by rfl) T.m__law_pull T.F__law_pull.kp T.b__law_pull .nil (fun _ _ _ => .nil) (pda_cons (pd_var 1) (pda_cons pd_int pda_nil)))) pda_nil)) (blkOk_by (N := n_law) (sc := defScope s_law) (by decide +kernel)) (fun _ _ _ _ _ => (pdg_name (i := 12) sc_law.nd rfl (by first | exact Or.inl rfl | exact Or.inr rfl))) (own_name (by decide)) (fun _ _ _ _ _ => pdts_nil) (fun _ _ _ _ _ => (kd_call (by exact ⟨rfl, rfl, rfl, rfl, rfl⟩) G__law_pull (hr.mono (by omega)) (by rfl) T.m__law_pull T.F__law_pull.kp T.b__law_pull .nil (fun _ _ _ => .nil) (pda_cons (pd_var 1) (pda_cons pd_int pda_nil))))) pda_nil)) pda_nil))))
      (pdss_cons (pds_set (i := 4) sc_law.nd rfl (by first | exact Or.inl rfl | exact Or.inr rfl) (kd_call (by exact ⟨rfl, rfl, rfl, rfl, rfl⟩) G__law_of (hr.mono (by omega)) (by rfl) T.m__law_of T.F__law_of.kp T.b__law_of .nil (fun _ _ _ => .nil) (pda_cons (pd_var 1) (pda_cons (pd_lst (pda_cons (pd_var 3) (pda_cons (pd_var 3) (pda_cons (pd_tup (pda_cons (pd_str ⟨by decide +kernel, by decide +kernel⟩) (pda_cons (kd_call (by exact ⟨rfl, rfl, rfl, rfl, rfl⟩) G__law_pull (hr.mono (by omega)) (by rfl) T.m__law_pull T.F__law_pull.kp T.b__law_pull .nil (fun _ _ _ => .nil) (pda_cons (pd_var 1) (pda_cons pd_int pda_nil))) pda_nil))) (pda_cons (pd_tup (pda_cons (pd_str ⟨by decide +kernel, by decide +kernel⟩) (pda_cons (kd_call (by exact ⟨rfl, rfl, rfl, rfl, rfl⟩) G__law_pull (hr.mono (by omega)) (by rfl) T.m__law_pull T.F__law_pull.kp T.b__law_pull .nil (fun _ _ _ => .nil) (pda_cons (pd_var 1) (pda_cons pd_int pda_nil))) pda_nil))) (pda_cons (pd_tup (pda_cons (pd_str ⟨by decide +kernel, by decide +kernel⟩) pda_nil)) (pda_cons (pd_tup (pda_cons (pd_str ⟨by decide +kernel, by decide +kernel⟩) pda_nil)) pda_nil))))))) pda_nil))))
      (pdss_cons (pds_set (i := 5) sc_law.nd rfl (by first | exact Or.inl rfl | exact Or.inr rfl) (kd_call (by exact ⟨rfl, rfl, rfl, rfl, rfl⟩) G__law_event_text (hr.mono (by omega)) (by rfl) T.m__law_event_text T.F__law_event_text.kp T.b__law_event_text .nil (fun _ _ _ => .nil) (pda_cons (pd_var 4) pda_nil)))
      (pdss_cons (pds_if (pdt_not (pdt_val (kd_call (by exact ⟨rfl, rfl, rfl, rfl, rfl⟩) G__law_same (hr.mono (by omega)) (by rfl) T.m__law_same T.F__law_same.kp T.b__law_same .nil (fun _ _ _ => .nil) (pda_cons (pd_lst (pda_cons (kd_callK0 (by exact ⟨rfl, rfl, rfl, rfl, rfl⟩) G_event_text (hr.mono (by omega)) (by rfl) T.m_event_text T.F_event_text.kp T.kb_event_text_0_event (pdk_cons (pd_var 4) pdk_nil)) (pda_cons (kd_call (by exact ⟨rfl, rfl, rfl, rfl, rfl⟩) G_read_event (hr.mono (by omega)) (by rfl) T.m_read_event T.F_read_event.kp T.b_read_event .nil (fun _ _ _ => .nil) (pda_cons (pd_var 5) pda_nil)) pda_nil))) (pda_cons (pd_lst (pda_cons (pd_var 5) (pda_cons (pd_var 4) pda_nil))) pda_nil)))))
        (pdss_one (pds_ret pd_bl))
        pdss_nil)
      (pdss_cons (pds_par (i := 6) (j := 7) rfl sc_law.nd rfl rfl (by decide) rfl rfl (pda_cons (kd_call (by exact ⟨rfl, rfl, rfl, rfl, rfl⟩) G__law_pull (hr.mono (by omega)) (by rfl) T.m__law_pull T.F__law_pull.kp T.b__law_pull .nil (fun _ _ _ => .nil) (pda_cons (pd_var 1) (pda_cons (pd_op (kd_add (K := K) (by rfl)) (pd_callB (kl_len (K := K) (by rfl)) (by rfl) T.n_len (by decide +kernel) (pda_cons (pd_var 5) pda_nil)) pd_int) pda_nil))) (pda_cons (kd_call (by exact ⟨rfl, rfl, rfl, rfl, rfl⟩) G__law_of (hr.mono (by omega)) (by rfl) T.m__law_of T.F__law_of.kp T.b__law_of .nil (fun _ _ _ => .nil) (pda_cons (pd_var 1) (pda_cons (pd_lst (pda_cons (pd_str ⟨by decide +kernel, by decide +kernel⟩) (pda_cons (pd_str ⟨by decide +kernel, by decide +kernel⟩) (pda_cons (pd_str ⟨by decide +kernel, by decide +kernel⟩) (pda_cons (pd_str ⟨by decide +kernel, by decide +kernel⟩) (pda_cons (pd_str ⟨by decide +kernel, by decide +kernel⟩) (pda_cons (pd_str ⟨by decide +kernel, by decide +kernel⟩) (pda_cons (pd_str ⟨by decide +kernel, by decide +kernel⟩) pda_nil)))))))) pda_nil))) pda_nil)) (by rfl))
      (pdss_cons (pds_set (i := 8) sc_law.nd rfl (by first | exact Or.inl rfl | exact Or.inr rfl) (kd_call (by exact ⟨rfl, rfl, rfl, rfl, rfl⟩) G__law_of (hr.mono (by omega)) (by rfl) T.m__law_of T.F__law_of.kp T.b__law_of .nil (fun _ _ _ => .nil) (pda_cons (pd_var 1) (pda_cons (pd_lst (pda_cons (pd_op (kd_add (K := K) (by rfl)) (pd_op (kd_add (K := K) (by rfl)) (pd_slice (kd_sl (K := K) (by rfl)) (pd_var 5) pdo_none (pdo_some (pd_var 6))) (pd_var 7)) (pd_slice (kd_sl (K := K) (by rfl)) (pd_var 5) (pdo_some (pd_var 6)) pdo_none)) (pda_cons (pd_op (kd_add (K := K) (by rfl)) (pd_slice (kd_sl (K := K) (by rfl)) (pd_var 5) pdo_none (pdo_some (pd_var 6))) (pd_slice (kd_sl (K := K) (by rfl)) (pd_var 5) (pdo_some (pd_op (kd_add (K := K) (by rfl)) (pd_var 6) pd_int)) pdo_none)) (pda_cons (pd_op (kd_add (K := K) (by rfl)) (pd_op (kd_add (K := K) (by rfl)) (pd_slice (kd_sl (K := K) (by rfl)) (pd_var 5) pdo_none (pdo_some (pd_var 6))) (pd_var 7)) (pd_slice (kd_sl (K := K) (by rfl)) (pd_var 5) (pdo_some (pd_op (kd_add (K := K) (by rfl)) (pd_var 6) pd_int)) pdo_none)) pda_nil)))) pda_nil))))
      (pdss_cons (pds_set (i := 9) sc_law.nd rfl (by first | exact Or.inl rfl | exact Or.inr rfl) (kd_call (by exact ⟨rfl, rfl, rfl, rfl, rfl⟩) G__law_event_of (hr.mono (by omega)) (by rfl) T.m__law_event_of T.F__law_event_of.kp T.b__law_event_of .nil (fun _ _ _ => .nil) (pda_cons (pd_var 8) pda_nil)))
      (pdss_cons (pds_set (i := 10) sc_law.nd rfl (by first | exact Or.inl rfl | exact Or.inr rfl) (pd_try (cs := [.ref C_PlanError, .ref C_Missing, .ref C_NothingLeft]) (ct := CtF m__law_field) T.F__law_try (by rfl) T.m__law_try T.b__law_try sc__law_try rfl (.inl rfl) (fun cdv => EXX.try_gives sc__law_try.nd rfl rfl rfl rfl rfl T.g_PlanError T.g_Missing T.g_NothingLeft rfl T.m__law_field T.F__law_field.kp Q__law_field T.b__law_field (hr.mono (by omega)) (fun _ => rfl)) TB_law rfl T.tk_law T.uq_law (k := k) (hr.mono (by omega)) (LamX.lamS_by (sc := defScope s_law) (by decide +kernel)) (fun _ _ _ _ _ => rfl) (fun A outer s H E f c' hr => by have hu := hr.units; exact (kd_callK0 (by exact ⟨rfl, rfl, rfl, rfl, rfl⟩) G_read_event (hr.mono (by omega)) (by rfl) T.m_read_event T.F_read_event.kp T.kb_read_event_0_text (pdk_cons (pd_var 8) pdk_nil)))))
      (pdss_cons (pds_if (pdt_not (pdt_val (kd_call (by exact ⟨rfl, rfl, rfl, rfl, rfl⟩) G__law_same (hr.mono (by omega)) (by rfl) T.m__law_same T.F__law_same.kp T.b__law_same .nil (fun _ _ _ => .nil) (pda_cons (pd_var 10) (pda_cons (pd_ifExp (pdt_cmp od_notN (pd_var 9) pd_non (nomark _)) (pd_tup (pda_cons (pd_str ⟨by decide +kernel, by decide +kernel⟩) (pda_cons (pd_var 9) pda_nil))) (pd_tup (pda_cons (pd_str ⟨by decide +kernel, by decide +kernel⟩) (pda_cons pd_int pda_nil)))) pda_nil)))))
        (pdss_one (pds_ret pd_bl))
        pdss_nil)
      (pdss_cons (pds_set (i := 11) sc_law.nd rfl (by first | exact Or.inl rfl | exact Or.inr rfl) (kd_call (by exact ⟨rfl, rfl, rfl, rfl, rfl⟩) G__law_of (hr.mono (by omega)) (by rfl) T.m__law_of T.F__law_of.kp T.b__law_of .nil (fun _ _ _ => .nil) (pda_cons (pd_var 1) (pda_cons (pd_lst (pda_cons pd_non (pda_cons pd_int (pda_cons (pd_str ⟨by decide +kernel, by decide +kernel⟩) (pda_cons (pd_str ⟨by decide +kernel, by decide +kernel⟩) (pda_cons (pd_str ⟨by decide +kernel, by decide +kernel⟩) (pda_cons (pd_str ⟨by decide +kernel, by decide +kernel⟩) (pda_cons (pd_str ⟨by decide +kernel, by decide +kernel⟩) (pda_cons (pd_str ⟨by decide +kernel, by decide +kernel⟩) (pda_cons (pd_str ⟨by decide +kernel, by decide +kernel⟩) (pda_cons (pd_str ⟨by decide +kernel, by decide +kernel⟩) (pda_cons (pd_str ⟨by decide +kernel, by decide +kernel⟩) (pda_cons (pd_str ⟨by decide +kernel, by decide +kernel⟩) (pda_cons (pd_tup (pda_cons (pd_str ⟨by decide +kernel, by decide +kernel⟩) pda_nil)) (pda_cons pd_bl pda_nil))))))))))))))) pda_nil))))
      (pdss_one (pds_if (pdt_not (pdt_val (kd_call (by exact ⟨rfl, rfl, rfl, rfl, rfl⟩) G__law_same (hr.mono (by omega)) (by rfl) T.m__law_same T.F__law_same.kp T.b__law_same .nil (fun _ _ _ => .nil) (pda_cons (pd_try (cs := [.ref C_PlanError, .ref C_Missing, .ref C_NothingLeft]) (ct := CtF m__law_field) T.F__law_try (by rfl) T.m__law_try T.b__law_try sc__law_try rfl (.inl rfl) (fun cdv => EXX.try_gives sc__law_try.nd rfl rfl rfl rfl rfl T.g_PlanError T.g_Missing T.g_NothingLeft rfl T.m__law_field T.F__law_field.kp Q__law_field T.b__law_field (hr.mono (by omega)) (fun _ => rfl)) TB_law rfl T.tk_law T.uq_law (k := k) (hr.mono (by omega)) (LamX.lamS_by (sc := defScope s_law) (by decide +kernel)) (fun _ _ _ _ _ => rfl) (fun A outer s H E f c' hr => by have hu := hr.units; exact (kd_call (by exact ⟨rfl, rfl, rfl, rfl, rfl⟩) G_read_event (hr.mono (by omega)) (by rfl) T.m_read_event T.F_read_event.kp T.b_read_event .nil (fun _ _ _ => .nil) (pda_cons (pd_var 11) pda_nil)))) (pda_cons (pd_tup (pda_cons (pd_str ⟨by decide +kernel, by decide +kernel⟩) (pda_cons pd_int pda_nil))) pda_nil)))))
        (pdss_one (pds_ret pd_bl))
        pdss_nil)))))))))))))
    (pdss_one (pds_ret (pd_cmp (kd_eq (K := K) (by rfl) hu) (kd_call (by exact ⟨rfl, rfl, rfl, rfl, rfl⟩) G_read_event (hr.mono (by omega)) (by rfl) T.m_read_event T.F_read_event.kp T.b_read_event .nil (fun _ _ _ => .nil) (pda_cons (pd_str ⟨by decide +kernel, by decide +kernel⟩) pda_nil)) (pd_tup (pda_cons (pd_str ⟨by decide +kernel, by decide +kernel⟩) (pda_cons (pd_tup (pda_cons pd_int (pda_cons pd_int pda_nil))) pda_nil))) (nomark _)))))), ctf_body (body := fb_law m_read_event m__law_same m__law_field m__law_of m__law_event_of m__law_pull m_event_text m__law_event_text m__law_bag) ?_ rfl hc⟩
  unfold fb_law
  exact (imps_seq (imps_asg (imp_call rfl (imp_cons (imp_var) imp_nil)) (impt_name (i := 1)))
    (imps_seq (imps_for (impi_range1 (imp_cons (imp_c) imp_nil)) (impt_name (i := 2))
      (imps_seq (imps_asg (imp_tup (imp_cons (imp_c) (imp_cons (imp_cb impn_tuple (imp_cons (imp_lc (impi_range1 (imp_cons (imp_op impo_add (imp_c) (imp_call rfl (imp_cons (imp_var) (imp_cons (imp_c) imp_nil)))) imp_nil)) (impt_name (i := 12)) imp_yes (imp_call rfl (imp_cons (imp_var) (imp_cons (imp_c) imp_nil)))) imp_nil)) imp_nil))) (impt_name (i := 3)))
      (imps_seq (imps_asg (imp_call rfl (imp_cons (imp_var) (imp_cons (imp_lst (imp_cons (imp_var) (imp_cons (imp_var) (imp_cons (imp_tup (imp_cons (imp_c) (imp_cons (imp_call rfl (imp_cons (imp_var) (imp_cons (imp_c) imp_nil))) imp_nil))) (imp_cons (imp_tup (imp_cons (imp_c) (imp_cons (imp_call rfl (imp_cons (imp_var) (imp_cons (imp_c) imp_nil))) imp_nil))) (imp_cons (imp_tup (imp_cons (imp_c) imp_nil)) (imp_cons (imp_tup (imp_cons (imp_c) imp_nil)) imp_nil))))))) imp_nil))) (impt_name (i := 4)))
      (imps_seq (imps_asg (imp_call rfl (imp_cons (imp_var) imp_nil)) (impt_name (i := 5)))
      (imps_seq (imps_if (imp_not (imp_test (imp_call rfl (imp_cons (imp_lst (imp_cons (imp_callK imp_nil (imp_cons (imp_var) imp_nil)) (imp_cons (imp_call rfl (imp_cons (imp_var) imp_nil)) imp_nil))) (imp_cons (imp_lst (imp_cons (imp_var) (imp_cons (imp_var) imp_nil))) imp_nil)))))
        (imps_ret (imp_c))
        imps_next)
      (imps_seq (imps_par (imp_cons (imp_call rfl (imp_cons (imp_var) (imp_cons (imp_op impo_add (imp_cb impn_len (imp_cons (imp_var) imp_nil)) (imp_c)) imp_nil))) (imp_cons (imp_call rfl (imp_cons (imp_var) (imp_cons (imp_lst (imp_cons (imp_c) (imp_cons (imp_c) (imp_cons (imp_c) (imp_cons (imp_c) (imp_cons (imp_c) (imp_cons (imp_c) (imp_cons (imp_c) imp_nil)))))))) imp_nil))) imp_nil)))
      (imps_seq (imps_asg (imp_call rfl (imp_cons (imp_var) (imp_cons (imp_lst (imp_cons (imp_op impo_add (imp_op impo_add (imp_sl impsl_cut (imp_var) imp_noPart (imp_part (imp_var))) (imp_var)) (imp_sl impsl_cut (imp_var) (imp_part (imp_var)) imp_noPart)) (imp_cons (imp_op impo_add (imp_sl impsl_cut (imp_var) imp_noPart (imp_part (imp_var))) (imp_sl impsl_cut (imp_var) (imp_part (imp_op impo_add (imp_var) (imp_c))) imp_noPart)) (imp_cons (imp_op impo_add (imp_op impo_add (imp_sl impsl_cut (imp_var) imp_noPart (imp_part (imp_var))) (imp_var)) (imp_sl impsl_cut (imp_var) (imp_part (imp_op impo_add (imp_var) (imp_c))) imp_noPart)) imp_nil)))) imp_nil))) (impt_name (i := 8)))
      (imps_seq (imps_asg (imp_call rfl (imp_cons (imp_var) imp_nil)) (impt_name (i := 9)))
      (imps_seq (imps_asg (imp_try (cls_cons T.ca_InvalidText (cls_cons T.ca_NothingLeft cls_nil)) (imp_callK imp_nil (imp_cons (imp_var) imp_nil))) (impt_name (i := 10)))
      (imps_seq (imps_if (imp_not (imp_test (imp_call rfl (imp_cons (imp_var) (imp_cons (imp_if (imp_test (imp_op impo_notN (imp_var) (imp_c))) (imp_tup (imp_cons (imp_c) (imp_cons (imp_var) imp_nil))) (imp_tup (imp_cons (imp_c) (imp_cons (imp_c) imp_nil)))) imp_nil)))))
        (imps_ret (imp_c))
        imps_next)
      (imps_seq (imps_asg (imp_call rfl (imp_cons (imp_var) (imp_cons (imp_lst (imp_cons (imp_c) (imp_cons (imp_c) (imp_cons (imp_c) (imp_cons (imp_c) (imp_cons (imp_c) (imp_cons (imp_c) (imp_cons (imp_c) (imp_cons (imp_c) (imp_cons (imp_c) (imp_cons (imp_c) (imp_cons (imp_c) (imp_cons (imp_c) (imp_cons (imp_tup (imp_cons (imp_c) imp_nil)) (imp_cons (imp_c) imp_nil))))))))))))))) imp_nil))) (impt_name (i := 11)))
      (imps_if (imp_not (imp_test (imp_call rfl (imp_cons (imp_try (cls_cons T.ca_InvalidText (cls_cons T.ca_NothingLeft cls_nil)) (imp_call rfl (imp_cons (imp_var) imp_nil))) (imp_cons (imp_tup (imp_cons (imp_c) (imp_cons (imp_c) imp_nil))) imp_nil)))))
        (imps_ret (imp_c))
        imps_next))))))))))))
    (imps_ret (imp_op impo_eq (imp_call rfl (imp_cons (imp_c) imp_nil)) (imp_tup (imp_cons (imp_c) (imp_cons (imp_tup (imp_cons (imp_c) (imp_cons (imp_c) imp_nil))) imp_nil)))))))
theorem chain (T : Tx P K mg) (TB_law : LamX.TabB base mg T.cc_law T.P_law) : FnOk P w K mg base (L2.CX P w) 17 T.f_law T.fd_law ["_law_script"] (sp0 K (CtF m_law)) := by
  have G_is_number : FnOk P w K mg base (L2.CX P w) 3 T.f_is_number T.fd_is_number ["value", "least", "most"] (sp0 K (CtF m_is_number)) := ok_is_number (k := 1) T
  have G_is_byte : FnOk P w K mg base (L2.CX P w) 5 T.f_is_byte T.fd_is_byte ["value"] (sp0 K (CtF m_is_byte)) := ok_is_byte (k := 3) T (G_is_number.mono (by decide))
  have G_are_bytes : FnOk P w K mg base (L2.CX P w) 7 T.f_are_bytes T.fd_are_bytes ["value", "most"] (sp0 K (CtF m_are_bytes)) := ok_are_bytes (k := 5) T (G_is_byte.mono (by decide))
  have G_is_event : FnOk P w K mg base (L2.CX P w) 9 T.f_is_event T.fd_is_event ["value"] (sp0 K (CtF m_is_event)) := ok_is_event (k := 7) T (G_is_number.mono (by decide)) (G_is_byte.mono (by decide)) (G_are_bytes.mono (by decide))
  have G_is_plain_number : FnOk P w K mg base (L2.CX P w) 3 T.f_is_plain_number T.fd_is_plain_number ["word"] (sp0 K (CtF m_is_plain_number)) := ok_is_plain_number (k := 1) T
  have G_read_event : FnOk P w K mg base (L2.CX P w) 13 T.f_read_event T.fd_read_event ["text"] (sp0 K (CtF m_read_event)) := ok_read_event (k := 9) T (G_is_event.mono (by decide)) (G_is_plain_number.mono (by decide))
  have R__law_same : ∀ q : Nat, FnOk P w K mg base (L2.CX P w) (1 + 2 * q) T.f__law_same T.fd__law_same ["_law_found", "_law_due"] (sp0 K (CtF (r__law_same q))) := by
    intro q
    induction q with
    | zero => exact fn_false fun ds η Z Φ h => ctf_bad h
    | succ q ih =>
      exact ok__law_same (k := 1 + 2 * q) T ih
  have G__law_same : FnOk P w K mg base (L2.CX P w) 13 T.f__law_same T.fd__law_same ["_law_found", "_law_due"] (sp0 K (CtF m__law_same)) := R__law_same 6
  have Q__law_field : EXX.FnQ P w K mg base 1 T.f__law_field T.fd__law_field ["_law_e"] (sp0 K fun ds η Z Φ => CtF m__law_field ds η Z0 Φ) := okq__law_field T
  have G__law_pull : FnOk P w K mg base (L2.CX P w) 3 T.f__law_pull T.fd__law_pull ["_law_bag_here", "_law_many"] (sp0 K (CtF m__law_pull)) := ok__law_pull (k := 1) T
  have G__law_of : FnOk P w K mg base (L2.CX P w) 5 T.f__law_of T.fd__law_of ["_law_bag_here", "_law_some"] (sp0 K (CtF m__law_of)) := ok__law_of (k := 3) T (G__law_pull.mono (by decide))
  have G__law_number_so : FnOk P w K mg base (L2.CX P w) 3 T.f__law_number_so T.fd__law_number_so ["_law_word"] (sp0 K (CtF m__law_number_so)) := ok__law_number_so (k := 1) T
  have G__law_event_of : FnOk P w K mg base (L2.CX P w) 5 T.f__law_event_of T.fd__law_event_of ["_law_term"] (sp0 K (CtF m__law_event_of)) := ok__law_event_of (k := 3) T (G__law_number_so.mono (by decide))
  have G_event_text : FnOk P w K mg base (L2.CX P w) 3 T.f_event_text T.fd_event_text ["event"] (sp0 K (CtF m_event_text)) := ok_event_text (k := 1) T
  have G__law_event_text : FnOk P w K mg base (L2.CX P w) 3 T.f__law_event_text T.fd__law_event_text ["_law_event"] (sp0 K (CtF m__law_event_text)) := ok__law_event_text (k := 1) T
  have G__law_bag : FnOk P w K mg base (L2.CX P w) 3 T.f__law_bag T.fd__law_bag ["_law_script"] (sp0 K (CtF m__law_bag)) := ok__law_bag (k := 1) T
  have G_law : FnOk P w K mg base (L2.CX P w) 17 T.f_law T.fd_law ["_law_script"] (sp0 K (CtF m_law)) := ok_law (k := 13) T (G_read_event.mono (by decide)) (G__law_same.mono (by decide)) Q__law_field (G__law_of.mono (by decide)) (G__law_event_of.mono (by decide)) (G__law_pull.mono (by decide)) (G_event_text.mono (by decide)) (G__law_event_text.mono (by decide)) (G__law_bag.mono (by decide)) TB_law
  exact G_law
end
theorem fin_mk {l : PySem.W.OpenLaw} {w : World} {K : PySem.W.Frag} {h : Heap} {mg : Str → Option Value} {fa : Addr} (X : K.In h) (G : h.Ns mainGlobals mg) (hfa : mg "law" = some (.ref fa))
    {f_is_number : Addr}
    {f_is_byte : Addr}
    {f_are_bytes : Addr}
    {f_is_event : Addr}
    {f_is_plain_number : Addr}
    {f_read_event : Addr}
    {f__law_same : Addr}
    {f__law_field : Addr}
    {f__law_pull : Addr}
    {f__law_of : Addr}
    {f__law_number_so : Addr}
    {f__law_event_of : Addr}
    {f_event_text : Addr}
    {f__law_event_text : Addr}
    {f__law_bag : Addr}
    {f_law : Addr}
    {f__law_try : Addr}
    (cA_InvalidText : PySem.W.nsIn K mainGlobals "InvalidText" = some (some (.ref C_InvalidText)))
    (cA_Missing : PySem.W.nsIn K mainGlobals "Missing" = some (some (.ref C_Missing)))
    (cA_NothingLeft : PySem.W.nsIn K mainGlobals "NothingLeft" = some (some (.ref C_NothingLeft)))
    (cA_PlanError : PySem.W.nsIn K mainGlobals "PlanError" = some (some (.ref C_PlanError)))
    (p_top : (l.prog.main.scope.names.lookup ("super" : Str)).isSome = false)
    (z_super : PySem.W.nsIn K mainGlobals "super" = some none)
    (z_any : PySem.W.nsIn K cStatics "thirdparty.any" = some none)
    {fI_InvalidText cda_InvalidText ccc_InvalidText : Addr} {oI_InvalidText kI_InvalidText dI_InvalidText pI_InvalidText tI_InvalidText cl_InvalidText cll_InvalidText : Value} {aI_InvalidText odI_InvalidText cdd_InvalidText cld_InvalidText : Option Addr} {os_InvalidText ccs_InvalidText csl_InvalidText : Array (Option Value)} {vs_InvalidText : Array Value} {fi_InvalidText : Str} {ft_InvalidText : Tok}
    (iC_InvalidText : PySem.W.findIn K (.ref C_InvalidText) "__init__" = some (some (.ref fI_InvalidText)))
    (ti_InvalidText : PySem.W.typeIn K (.ref fI_InvalidText) = some (.type "function"))
    (lI_InvalidText : K.lookup fI_InvalidText = some ⟨oI_InvalidText, odI_InvalidText, .func (PySem.W.ksFn "__init__" "InvalidText.__init__" (defArgs s_InvalidText___init__) (defBody s_InvalidText___init__) (defScope s_InvalidText___init__) .none kI_InvalidText dI_InvalidText pI_InvalidText aI_InvalidText (.ref cda_InvalidText) tI_InvalidText ccc_InvalidText), os_InvalidText⟩)
    (cI_InvalidText : PySem.W.codeIn K (.ref cda_InvalidText) "InvalidText.__init__" = true)
    (ce_InvalidText : K.lookup ccc_InvalidText = some ⟨cll_InvalidText, cld_InvalidText, .cell (some (.ref C_InvalidText)), csl_InvalidText⟩)
    (cd_InvalidText : K.lookup cda_InvalidText = some ⟨cl_InvalidText, cdd_InvalidText, .fields vs_InvalidText, ccs_InvalidText⟩)
    (v2_InvalidText : vs_InvalidText[2]? = some (.str fi_InvalidText ft_InvalidText))
    (fl_InvalidText : ((l.prog.main.file : Str) == fi_InvalidText) = true)
    (ni_InvalidText : PySem.W.excInitIn K C_InvalidText [.type "ValueError", .type "Exception", .type "BaseException", .type "object"] "ValueError.__new__" = true)
    (ov_InvalidText : PySem.W.excOver K C_InvalidText [.type "ValueError", .type "Exception", .type "BaseException", .type "object"] = true)
    (hd_InvalidText : PySem.W.hasDictIn K C_InvalidText = true)
    (sa_InvalidText : PySem.W.findIn K (.ref C_InvalidText) "__setattr__" = some (some (.builtin "object.__setattr__")))
    (ex_InvalidText : PySem.W.subIn K (.ref C_InvalidText) (.type "BaseException") = some true)
    (eb_InvalidText : PySem.W.subIn K (.ref C_InvalidText) (.type "ValueError") = some true)
    (ty_InvalidText : PySem.W.typeIn K (.ref C_InvalidText) = some (.type "type"))
    (kc_InvalidText : PySem.W.keepIn K (.ref C_InvalidText) = true)
    (su_InvalidText : PySem.W.ks_superIn K C_InvalidText C_InvalidText "__init__" = some (some (.builtin "ValueError.__init__")))
    (tc_InvalidText : PySem.W.takerIn K C_InvalidText "code" = some none)
    (tf_InvalidText : PySem.W.takerIn K C_InvalidText "at" = some none)
    (ga_InvalidText : PySem.W.findIn K (.ref C_InvalidText) "__getattribute__" = some (some (.builtin "BaseException.__getattribute__")))
    (gg_InvalidText : PySem.W.findIn K (.ref C_InvalidText) "__getattr__" = some none)
    (xa_InvalidText_at : PySem.W.findIn K (.ref C_InvalidText) "at" = some none)
    (xa_InvalidText_code : PySem.W.findIn K (.ref C_InvalidText) "code" = some none)
    (xa_InvalidText_given : PySem.W.findIn K (.ref C_InvalidText) "given" = some none)
    (xa_InvalidText_limit : PySem.W.findIn K (.ref C_InvalidText) "limit" = some none)
    (xa_InvalidText_line : PySem.W.findIn K (.ref C_InvalidText) "line" = some none)
    (xa_InvalidText_most : PySem.W.findIn K (.ref C_InvalidText) "most" = some none)
    (xa_InvalidText_name : PySem.W.findIn K (.ref C_InvalidText) "name" = some none)
    (em_InvalidText : PySem.W.exmAny K (.ref C_InvalidText) [.ref C_PlanError, .ref C_Missing, .ref C_NothingLeft] = some true)
    {fI_NothingLeft cda_NothingLeft ccc_NothingLeft : Addr} {oI_NothingLeft kI_NothingLeft dI_NothingLeft pI_NothingLeft tI_NothingLeft cl_NothingLeft cll_NothingLeft : Value} {aI_NothingLeft odI_NothingLeft cdd_NothingLeft cld_NothingLeft : Option Addr} {os_NothingLeft ccs_NothingLeft csl_NothingLeft : Array (Option Value)} {vs_NothingLeft : Array Value} {fi_NothingLeft : Str} {ft_NothingLeft : Tok}
    (iC_NothingLeft : PySem.W.findIn K (.ref C_NothingLeft) "__init__" = some (some (.ref fI_NothingLeft)))
    (ti_NothingLeft : PySem.W.typeIn K (.ref fI_NothingLeft) = some (.type "function"))
    (lI_NothingLeft : K.lookup fI_NothingLeft = some ⟨oI_NothingLeft, odI_NothingLeft, .func (PySem.W.ksFn "__init__" "NothingLeft.__init__" (defArgs s_NothingLeft___init__) (defBody s_NothingLeft___init__) (defScope s_NothingLeft___init__) .none kI_NothingLeft dI_NothingLeft pI_NothingLeft aI_NothingLeft (.ref cda_NothingLeft) tI_NothingLeft ccc_NothingLeft), os_NothingLeft⟩)
    (cI_NothingLeft : PySem.W.codeIn K (.ref cda_NothingLeft) "NothingLeft.__init__" = true)
    (ce_NothingLeft : K.lookup ccc_NothingLeft = some ⟨cll_NothingLeft, cld_NothingLeft, .cell (some (.ref C_NothingLeft)), csl_NothingLeft⟩)
    (cd_NothingLeft : K.lookup cda_NothingLeft = some ⟨cl_NothingLeft, cdd_NothingLeft, .fields vs_NothingLeft, ccs_NothingLeft⟩)
    (v2_NothingLeft : vs_NothingLeft[2]? = some (.str fi_NothingLeft ft_NothingLeft))
    (fl_NothingLeft : ((l.prog.main.file : Str) == fi_NothingLeft) = true)
    (ni_NothingLeft : PySem.W.excInitIn K C_NothingLeft [.type "IndexError", .type "LookupError", .type "Exception", .type "BaseException", .type "object"] "IndexError.__new__" = true)
    (ov_NothingLeft : PySem.W.excOver K C_NothingLeft [.type "IndexError", .type "LookupError", .type "Exception", .type "BaseException", .type "object"] = true)
    (hd_NothingLeft : PySem.W.hasDictIn K C_NothingLeft = true)
    (sa_NothingLeft : PySem.W.findIn K (.ref C_NothingLeft) "__setattr__" = some (some (.builtin "object.__setattr__")))
    (ex_NothingLeft : PySem.W.subIn K (.ref C_NothingLeft) (.type "BaseException") = some true)
    (eb_NothingLeft : PySem.W.subIn K (.ref C_NothingLeft) (.type "IndexError") = some true)
    (ty_NothingLeft : PySem.W.typeIn K (.ref C_NothingLeft) = some (.type "type"))
    (kc_NothingLeft : PySem.W.keepIn K (.ref C_NothingLeft) = true)
    (su_NothingLeft : PySem.W.ks_superIn K C_NothingLeft C_NothingLeft "__init__" = some (some (.builtin "IndexError.__init__")))
    (tc_NothingLeft : PySem.W.takerIn K C_NothingLeft "code" = some none)
    (ga_NothingLeft : PySem.W.findIn K (.ref C_NothingLeft) "__getattribute__" = some (some (.builtin "BaseException.__getattribute__")))
    (gg_NothingLeft : PySem.W.findIn K (.ref C_NothingLeft) "__getattr__" = some none)
    (xa_NothingLeft_at : PySem.W.findIn K (.ref C_NothingLeft) "at" = some none)
    (xa_NothingLeft_code : PySem.W.findIn K (.ref C_NothingLeft) "code" = some none)
    (xa_NothingLeft_given : PySem.W.findIn K (.ref C_NothingLeft) "given" = some none)
    (xa_NothingLeft_limit : PySem.W.findIn K (.ref C_NothingLeft) "limit" = some none)
    (xa_NothingLeft_line : PySem.W.findIn K (.ref C_NothingLeft) "line" = some none)
    (xa_NothingLeft_most : PySem.W.findIn K (.ref C_NothingLeft) "most" = some none)
    (xa_NothingLeft_name : PySem.W.findIn K (.ref C_NothingLeft) "name" = some none)
    (em_NothingLeft : PySem.W.exmAny K (.ref C_NothingLeft) [.ref C_PlanError, .ref C_Missing, .ref C_NothingLeft] = some true)
    {od_is_number an_is_number : Option Addr} {sl_is_number : Array (Option Value)} {oc_is_number kV_is_number dc_is_number pm_is_number cd_is_number ct_is_number : Value}
    (a_is_number : PySem.W.nsIn K mainGlobals "is_number" = some (some (.ref f_is_number)))
    (l_is_number : K.lookup f_is_number = some ⟨oc_is_number, od_is_number, .func (PySem.W.fnOf "is_number" "is_number" (defArgs s_is_number) (defBody s_is_number) (defScope s_is_number) .none kV_is_number dc_is_number pm_is_number an_is_number cd_is_number ct_is_number), sl_is_number⟩)
    (co_is_number : PySem.W.codeIn K cd_is_number "is_number" = true)
    (k_is_number : PySem.W.keepIn K (.ref f_is_number) = true)
    {od_is_byte an_is_byte : Option Addr} {sl_is_byte : Array (Option Value)} {oc_is_byte kV_is_byte dc_is_byte pm_is_byte cd_is_byte ct_is_byte : Value}
    (a_is_byte : PySem.W.nsIn K mainGlobals "is_byte" = some (some (.ref f_is_byte)))
    (l_is_byte : K.lookup f_is_byte = some ⟨oc_is_byte, od_is_byte, .func (PySem.W.fnOf "is_byte" "is_byte" (defArgs s_is_byte) (defBody s_is_byte) (defScope s_is_byte) .none kV_is_byte dc_is_byte pm_is_byte an_is_byte cd_is_byte ct_is_byte), sl_is_byte⟩)
    (co_is_byte : PySem.W.codeIn K cd_is_byte "is_byte" = true)
    (k_is_byte : PySem.W.keepIn K (.ref f_is_byte) = true)
    {od_are_bytes an_are_bytes : Option Addr} {sl_are_bytes : Array (Option Value)} {oc_are_bytes kV_are_bytes dc_are_bytes pm_are_bytes cd_are_bytes ct_are_bytes : Value}
    (a_are_bytes : PySem.W.nsIn K mainGlobals "are_bytes" = some (some (.ref f_are_bytes)))
    (l_are_bytes : K.lookup f_are_bytes = some ⟨oc_are_bytes, od_are_bytes, .func (PySem.W.fnOf "are_bytes" "are_bytes" (defArgs s_are_bytes) (defBody s_are_bytes) (defScope s_are_bytes) .none kV_are_bytes dc_are_bytes pm_are_bytes an_are_bytes cd_are_bytes ct_are_bytes), sl_are_bytes⟩)
    (co_are_bytes : PySem.W.codeIn K cd_are_bytes "are_bytes" = true)
    (k_are_bytes : PySem.W.keepIn K (.ref f_are_bytes) = true)
    {od_is_event an_is_event : Option Addr} {sl_is_event : Array (Option Value)} {oc_is_event kV_is_event dc_is_event pm_is_event cd_is_event ct_is_event : Value}
    (a_is_event : PySem.W.nsIn K mainGlobals "is_event" = some (some (.ref f_is_event)))
    (l_is_event : K.lookup f_is_event = some ⟨oc_is_event, od_is_event, .func (PySem.W.fnOf "is_event" "is_event" (defArgs s_is_event) (defBody s_is_event) (defScope s_is_event) .none kV_is_event dc_is_event pm_is_event an_is_event cd_is_event ct_is_event), sl_is_event⟩)
    (co_is_event : PySem.W.codeIn K cd_is_event "is_event" = true)
    (k_is_event : PySem.W.keepIn K (.ref f_is_event) = true)
    {od_is_plain_number an_is_plain_number : Option Addr} {sl_is_plain_number : Array (Option Value)} {oc_is_plain_number kV_is_plain_number dc_is_plain_number pm_is_plain_number cd_is_plain_number ct_is_plain_number : Value}
    (a_is_plain_number : PySem.W.nsIn K mainGlobals "is_plain_number" = some (some (.ref f_is_plain_number)))
    (l_is_plain_number : K.lookup f_is_plain_number = some ⟨oc_is_plain_number, od_is_plain_number, .func (PySem.W.fnOf "is_plain_number" "is_plain_number" (defArgs s_is_plain_number) (defBody s_is_plain_number) (defScope s_is_plain_number) .none kV_is_plain_number dc_is_plain_number pm_is_plain_number an_is_plain_number cd_is_plain_number ct_is_plain_number), sl_is_plain_number⟩)
    (co_is_plain_number : PySem.W.codeIn K cd_is_plain_number "is_plain_number" = true)
    (k_is_plain_number : PySem.W.keepIn K (.ref f_is_plain_number) = true)
    {od_read_event an_read_event : Option Addr} {sl_read_event : Array (Option Value)} {oc_read_event kV_read_event dc_read_event pm_read_event cd_read_event ct_read_event : Value}
    (a_read_event : PySem.W.nsIn K mainGlobals "read_event" = some (some (.ref f_read_event)))
    (l_read_event : K.lookup f_read_event = some ⟨oc_read_event, od_read_event, .func (PySem.W.fnOf "read_event" "read_event" (defArgs s_read_event) (defBody s_read_event) (defScope s_read_event) .none kV_read_event dc_read_event pm_read_event an_read_event cd_read_event ct_read_event), sl_read_event⟩)
    (co_read_event : PySem.W.codeIn K cd_read_event "read_event" = true)
    (k_read_event : PySem.W.keepIn K (.ref f_read_event) = true)
    {od__law_same an__law_same : Option Addr} {sl__law_same : Array (Option Value)} {oc__law_same kV__law_same dc__law_same pm__law_same cd__law_same ct__law_same : Value}
    (a__law_same : PySem.W.nsIn K mainGlobals "_law_same" = some (some (.ref f__law_same)))
    (l__law_same : K.lookup f__law_same = some ⟨oc__law_same, od__law_same, .func (PySem.W.fnOf "_law_same" "_law_same" (defArgs s__law_same) (defBody s__law_same) (defScope s__law_same) .none kV__law_same dc__law_same pm__law_same an__law_same cd__law_same ct__law_same), sl__law_same⟩)
    (co__law_same : PySem.W.codeIn K cd__law_same "_law_same" = true)
    (k__law_same : PySem.W.keepIn K (.ref f__law_same) = true)
    {od__law_field an__law_field : Option Addr} {sl__law_field : Array (Option Value)} {oc__law_field kV__law_field dc__law_field pm__law_field cd__law_field ct__law_field : Value}
    (a__law_field : PySem.W.nsIn K mainGlobals "_law_field" = some (some (.ref f__law_field)))
    (l__law_field : K.lookup f__law_field = some ⟨oc__law_field, od__law_field, .func (PySem.W.fnOf "_law_field" "_law_field" (defArgs s__law_field) (defBody s__law_field) (defScope s__law_field) .none kV__law_field dc__law_field pm__law_field an__law_field cd__law_field ct__law_field), sl__law_field⟩)
    (co__law_field : PySem.W.codeIn K cd__law_field "_law_field" = true)
    (k__law_field : PySem.W.keepIn K (.ref f__law_field) = true)
    {od__law_pull an__law_pull : Option Addr} {sl__law_pull : Array (Option Value)} {oc__law_pull kV__law_pull dc__law_pull pm__law_pull cd__law_pull ct__law_pull : Value}
    (a__law_pull : PySem.W.nsIn K mainGlobals "_law_pull" = some (some (.ref f__law_pull)))
    (l__law_pull : K.lookup f__law_pull = some ⟨oc__law_pull, od__law_pull, .func (PySem.W.fnOf "_law_pull" "_law_pull" (defArgs s__law_pull) (defBody s__law_pull) (defScope s__law_pull) .none kV__law_pull dc__law_pull pm__law_pull an__law_pull cd__law_pull ct__law_pull), sl__law_pull⟩)
    (co__law_pull : PySem.W.codeIn K cd__law_pull "_law_pull" = true)
    (k__law_pull : PySem.W.keepIn K (.ref f__law_pull) = true)
    {od__law_of an__law_of : Option Addr} {sl__law_of : Array (Option Value)} {oc__law_of kV__law_of dc__law_of pm__law_of cd__law_of ct__law_of : Value}
    (a__law_of : PySem.W.nsIn K mainGlobals "_law_of" = some (some (.ref f__law_of)))
    (l__law_of : K.lookup f__law_of = some ⟨oc__law_of, od__law_of, .func (PySem.W.fnOf "_law_of" "_law_of" (defArgs s__law_of) (defBody s__law_of) (defScope s__law_of) .none kV__law_of dc__law_of pm__law_of an__law_of cd__law_of ct__law_of), sl__law_of⟩)
    (co__law_of : PySem.W.codeIn K cd__law_of "_law_of" = true)
    (k__law_of : PySem.W.keepIn K (.ref f__law_of) = true)
    {od__law_number_so an__law_number_so : Option Addr} {sl__law_number_so : Array (Option Value)} {oc__law_number_so kV__law_number_so dc__law_number_so pm__law_number_so cd__law_number_so ct__law_number_so : Value}
    (a__law_number_so : PySem.W.nsIn K mainGlobals "_law_number_so" = some (some (.ref f__law_number_so)))
    (l__law_number_so : K.lookup f__law_number_so = some ⟨oc__law_number_so, od__law_number_so, .func (PySem.W.fnOf "_law_number_so" "_law_number_so" (defArgs s__law_number_so) (defBody s__law_number_so) (defScope s__law_number_so) .none kV__law_number_so dc__law_number_so pm__law_number_so an__law_number_so cd__law_number_so ct__law_number_so), sl__law_number_so⟩)
    (co__law_number_so : PySem.W.codeIn K cd__law_number_so "_law_number_so" = true)
    (k__law_number_so : PySem.W.keepIn K (.ref f__law_number_so) = true)
    {od__law_event_of an__law_event_of : Option Addr} {sl__law_event_of : Array (Option Value)} {oc__law_event_of kV__law_event_of dc__law_event_of pm__law_event_of cd__law_event_of ct__law_event_of : Value}
    (a__law_event_of : PySem.W.nsIn K mainGlobals "_law_event_of" = some (some (.ref f__law_event_of)))
    (l__law_event_of : K.lookup f__law_event_of = some ⟨oc__law_event_of, od__law_event_of, .func (PySem.W.fnOf "_law_event_of" "_law_event_of" (defArgs s__law_event_of) (defBody s__law_event_of) (defScope s__law_event_of) .none kV__law_event_of dc__law_event_of pm__law_event_of an__law_event_of cd__law_event_of ct__law_event_of), sl__law_event_of⟩)
    (co__law_event_of : PySem.W.codeIn K cd__law_event_of "_law_event_of" = true)
    (k__law_event_of : PySem.W.keepIn K (.ref f__law_event_of) = true)
    {od_event_text an_event_text : Option Addr} {sl_event_text : Array (Option Value)} {oc_event_text kV_event_text dc_event_text pm_event_text cd_event_text ct_event_text : Value}
    (a_event_text : PySem.W.nsIn K mainGlobals "event_text" = some (some (.ref f_event_text)))
    (l_event_text : K.lookup f_event_text = some ⟨oc_event_text, od_event_text, .func (PySem.W.fnOf "event_text" "event_text" (defArgs s_event_text) (defBody s_event_text) (defScope s_event_text) .none kV_event_text dc_event_text pm_event_text an_event_text cd_event_text ct_event_text), sl_event_text⟩)
    (co_event_text : PySem.W.codeIn K cd_event_text "event_text" = true)
    (k_event_text : PySem.W.keepIn K (.ref f_event_text) = true)
    {od__law_event_text an__law_event_text : Option Addr} {sl__law_event_text : Array (Option Value)} {oc__law_event_text kV__law_event_text dc__law_event_text pm__law_event_text cd__law_event_text ct__law_event_text : Value}
    (a__law_event_text : PySem.W.nsIn K mainGlobals "_law_event_text" = some (some (.ref f__law_event_text)))
    (l__law_event_text : K.lookup f__law_event_text = some ⟨oc__law_event_text, od__law_event_text, .func (PySem.W.fnOf "_law_event_text" "_law_event_text" (defArgs s__law_event_text) (defBody s__law_event_text) (defScope s__law_event_text) .none kV__law_event_text dc__law_event_text pm__law_event_text an__law_event_text cd__law_event_text ct__law_event_text), sl__law_event_text⟩)
    (co__law_event_text : PySem.W.codeIn K cd__law_event_text "_law_event_text" = true)
    (k__law_event_text : PySem.W.keepIn K (.ref f__law_event_text) = true)
    {od__law_bag an__law_bag : Option Addr} {sl__law_bag : Array (Option Value)} {oc__law_bag kV__law_bag dc__law_bag pm__law_bag cd__law_bag ct__law_bag : Value}
    (a__law_bag : PySem.W.nsIn K mainGlobals "_law_bag" = some (some (.ref f__law_bag)))
    (l__law_bag : K.lookup f__law_bag = some ⟨oc__law_bag, od__law_bag, .func (PySem.W.fnOf "_law_bag" "_law_bag" (defArgs s__law_bag) (defBody s__law_bag) (defScope s__law_bag) .none kV__law_bag dc__law_bag pm__law_bag an__law_bag cd__law_bag ct__law_bag), sl__law_bag⟩)
    (co__law_bag : PySem.W.codeIn K cd__law_bag "_law_bag" = true)
    (k__law_bag : PySem.W.keepIn K (.ref f__law_bag) = true)
    {od_law an_law : Option Addr} {sl_law : Array (Option Value)} {oc_law kV_law dc_law pm_law ct_law : Value}
    (a_law : PySem.W.nsIn K mainGlobals "law" = some (some (.ref f_law)))
    {cc_law P_law : Addr} {cv_law : Value} {co1_law : Option Addr} {co2_law : Array (Option Value)} {vs_law : Array Value}
    (l_law : K.lookup f_law = some ⟨oc_law, od_law, .func (PySem.W.fnOf "law" "law" (defArgs s_law) (defBody s_law) (defScope s_law) .none kV_law dc_law pm_law an_law (.ref cc_law) ct_law), sl_law⟩)
    (lc_law : K.lookup cc_law = some ⟨cv_law, co1_law, .fields vs_law, co2_law⟩)
    (v11_law : vs_law[11]? = some (.ref P_law))
    (np_law : K.lookup P_law = none)
    (hc_law : PySem.W.codeHdIn K cc_law P_law = true)
    (ht_law : h.get? P_law = some { cls := .none, data := .fields #[] })
    (co_law : PySem.W.codeIn K (.ref cc_law) "law" = true)
    (k_law : PySem.W.keepIn K (.ref f_law) = true)
    {od__law_try an__law_try : Option Addr} {sl__law_try : Array (Option Value)} {oc__law_try kV__law_try dc__law_try pm__law_try cd__law_try ct__law_try : Value}
    (a__law_try : PySem.W.nsIn K mainGlobals "_law_try" = some (some (.ref f__law_try)))
    (l__law_try : K.lookup f__law_try = some ⟨oc__law_try, od__law_try, .func (PySem.W.fnOf "_law_try" "_law_try" (defArgs s__law_try) (defBody s__law_try) (defScope s__law_try) .none kV__law_try dc__law_try pm__law_try an__law_try cd__law_try ct__law_try), sl__law_try⟩)
    (co__law_try : PySem.W.codeIn K cd__law_try "_law_try" = true)
    (k__law_try : PySem.W.keepIn K (.ref f__law_try) = true)
    (z_all : PySem.W.nsIn K mainGlobals "all" = some none)
    (z_bool : PySem.W.nsIn K mainGlobals "bool" = some none)
    (z_dict : PySem.W.nsIn K mainGlobals "dict" = some none)
    (z_int : PySem.W.nsIn K mainGlobals "int" = some none)
    (z_isinstance : PySem.W.nsIn K mainGlobals "isinstance" = some none)
    (z_len : PySem.W.nsIn K mainGlobals "len" = some none)
    (z_list : PySem.W.nsIn K mainGlobals "list" = some none)
    (z_range : PySem.W.nsIn K mainGlobals "range" = some none)
    (z_str : PySem.W.nsIn K mainGlobals "str" = some none)
    (z_tuple : PySem.W.nsIn K mainGlobals "tuple" = some none)
    (z_zip : PySem.W.nsIn K mainGlobals "zip" = some none)
    {t_DIGITS : Tok}
    (q_DIGITS : PySem.W.nsIn K mainGlobals "DIGITS" = some (some (.str "0123456789" t_DIGITS)))
    (tabs : tabsB K [("law", P_law)] = true)
    (nd_ : ([P_law] : List Addr).Nodup)
    : ∃ (fd : FuncData) (cs : List (Addr × Addr)), (∀ p ∈ cs, h.get? p.2 = some { cls := .none, data := .fields #[] }) ∧ (∀ p ∈ cs, K.lookup p.2 = none) ∧ (∀ p ∈ cs, PySem.W.CodeHd h p.1 p.2) ∧ (∀ P q, TabK K P q → ∃ p ∈ cs, p.2 = P) ∧
      (∀ (s : Shared) (u : Value), BindsTo s fd ⟨[u], []⟩ [("_law_script", u)]) ∧ ∀ base : Heap, K.In base → base.Ns mainGlobals mg → (∀ p ∈ cs, LamX.TabB base mg p.1 p.2) → FnOk l.prog w K mg base (L2.CX l.prog w) 17 fa fd ["_law_script"] (sp0 K (CtF m_law)) := by
  have e : f_law = fa := by cases hfa.symm.trans (PySem.W.mg_of X G a_law); rfl
  subst e
  have F_is_number := fun_mk (st := s_is_number) l_is_number co_is_number k_is_number
  have b_is_number := F_is_number.binds (ps := ["value", "least", "most"]) fun _ _ _ _ _ _ us hl => match us, hl with | [_, _, _], _ => rfl
  have F_is_byte := fun_mk (st := s_is_byte) l_is_byte co_is_byte k_is_byte
  have b_is_byte := F_is_byte.binds (ps := ["value"]) fun _ _ _ _ _ _ us hl => match us, hl with | [_], _ => rfl
  have F_are_bytes := fun_mk (st := s_are_bytes) l_are_bytes co_are_bytes k_are_bytes
  have b_are_bytes := F_are_bytes.binds (ps := ["value", "most"]) fun _ _ _ _ _ _ us hl => match us, hl with | [_, _], _ => rfl
  have F_is_event := fun_mk (st := s_is_event) l_is_event co_is_event k_is_event
  have b_is_event := F_is_event.binds (ps := ["value"]) fun _ _ _ _ _ _ us hl => match us, hl with | [_], _ => rfl
  have F_is_plain_number := fun_mk (st := s_is_plain_number) l_is_plain_number co_is_plain_number k_is_plain_number
  have b_is_plain_number := F_is_plain_number.binds (ps := ["word"]) fun _ _ _ _ _ _ us hl => match us, hl with | [_], _ => rfl
  have F_read_event := fun_mk (st := s_read_event) l_read_event co_read_event k_read_event
  have b_read_event := F_read_event.binds (ps := ["text"]) fun _ _ _ _ _ _ us hl => match us, hl with | [_], _ => rfl
  have F__law_same := fun_mk (st := s__law_same) l__law_same co__law_same k__law_same
  have b__law_same := F__law_same.binds (ps := ["_law_found", "_law_due"]) fun _ _ _ _ _ _ us hl => match us, hl with | [_, _], _ => rfl
  have F__law_field := fun_mk (st := s__law_field) l__law_field co__law_field k__law_field
  have b__law_field := F__law_field.binds (ps := ["_law_e"]) fun _ _ _ _ _ _ us hl => match us, hl with | [_], _ => rfl
  have F__law_pull := fun_mk (st := s__law_pull) l__law_pull co__law_pull k__law_pull
  have b__law_pull := F__law_pull.binds (ps := ["_law_bag_here", "_law_many"]) fun _ _ _ _ _ _ us hl => match us, hl with | [_, _], _ => rfl
  have F__law_of := fun_mk (st := s__law_of) l__law_of co__law_of k__law_of
  have b__law_of := F__law_of.binds (ps := ["_law_bag_here", "_law_some"]) fun _ _ _ _ _ _ us hl => match us, hl with | [_, _], _ => rfl
  have F__law_number_so := fun_mk (st := s__law_number_so) l__law_number_so co__law_number_so k__law_number_so
  have b__law_number_so := F__law_number_so.binds (ps := ["_law_word"]) fun _ _ _ _ _ _ us hl => match us, hl with | [_], _ => rfl
  have F__law_event_of := fun_mk (st := s__law_event_of) l__law_event_of co__law_event_of k__law_event_of
  have b__law_event_of := F__law_event_of.binds (ps := ["_law_term"]) fun _ _ _ _ _ _ us hl => match us, hl with | [_], _ => rfl
  have F_event_text := fun_mk (st := s_event_text) l_event_text co_event_text k_event_text
  have F__law_event_text := fun_mk (st := s__law_event_text) l__law_event_text co__law_event_text k__law_event_text
  have b__law_event_text := F__law_event_text.binds (ps := ["_law_event"]) fun _ _ _ _ _ _ us hl => match us, hl with | [_], _ => rfl
  have F__law_bag := fun_mk (st := s__law_bag) l__law_bag co__law_bag k__law_bag
  have b__law_bag := F__law_bag.binds (ps := ["_law_script"]) fun _ _ _ _ _ _ us hl => match us, hl with | [_], _ => rfl
  have F_law := funC_mk (st := s_law) l_law co_law k_law
  have F__law_try := fun_mk (st := s__law_try) l__law_try co__law_try k__law_try
  have b__law_try := F__law_try.binds (ps := ["_law_ask"]) fun _ _ _ _ _ _ us hl => match us, hl with | [_], _ => rfl
  have kb_event_text_0_event : KB K (PySem.W.fnOf "event_text" "event_text" (defArgs s_event_text) (defBody s_event_text) (defScope s_event_text) .none kV_event_text dc_event_text pm_event_text an_event_text cd_event_text ct_event_text) ["event"] 0 ["event"] [0] := KB.of fun us ws h1 h2 => match us, h1, ws, h2 with | [], _, [_], _ => rfl
  have kb_read_event_0_text : KB K (PySem.W.fnOf "read_event" "read_event" (defArgs s_read_event) (defBody s_read_event) (defScope s_read_event) .none kV_read_event dc_read_event pm_read_event an_read_event cd_read_event ct_read_event) ["text"] 0 ["text"] [0] := KB.of fun us ws h1 h2 => match us, h1, ws, h2 with | [], _, [_], _ => rfl
  have bI_InvalidText : Binds K (PySem.W.ksFn "__init__" "InvalidText.__init__" (defArgs s_InvalidText___init__) (defBody s_InvalidText___init__) (defScope s_InvalidText___init__) .none kI_InvalidText dI_InvalidText pI_InvalidText aI_InvalidText (.ref cda_InvalidText) tI_InvalidText ccc_InvalidText) ["self", "at"] [] := .all fun us hl => match us, hl with | [_, _], _ => rfl
  have bI_NothingLeft : Binds K (PySem.W.ksFn "__init__" "NothingLeft.__init__" (defArgs s_NothingLeft___init__) (defBody s_NothingLeft___init__) (defScope s_NothingLeft___init__) .none kI_NothingLeft dI_NothingLeft pI_NothingLeft aI_NothingLeft (.ref cda_NothingLeft) tI_NothingLeft ccc_NothingLeft) ["self"] [] := .all fun us hl => match us, hl with | [_], _ => rfl
  refine ⟨_, [(cc_law, P_law)], (List.forall_mem_cons.mpr ⟨ht_law, (fun _ z => nomatch z)⟩), (List.forall_mem_cons.mpr ⟨np_law, (fun _ z => nomatch z)⟩), (List.forall_mem_cons.mpr ⟨PySem.W.codeHd_of_K X hc_law, (fun _ z => nomatch z)⟩), (fun P q t => ?_), fun s v => .of_eq rfl, fun base _ _ hTB => chain { g_InvalidText := PySem.W.mg_of X G cA_InvalidText, g_Missing := PySem.W.mg_of X G cA_Missing, g_NothingLeft := PySem.W.mg_of X G cA_NothingLeft, g_PlanError := PySem.W.mg_of X G cA_PlanError, ox_InvalidText := ⟨EXX.eb_VE, ni_InvalidText, ov_InvalidText, hd_InvalidText, sa_InvalidText, ex_InvalidText, eb_InvalidText, ty_InvalidText, kc_InvalidText, su_InvalidText, z_any⟩, fI_InvalidText := fI_InvalidText, fdI_InvalidText := _, cda_InvalidText := cda_InvalidText, ccc_InvalidText := ccc_InvalidText, iC_InvalidText := iC_InvalidText, tI_InvalidText := ti_InvalidText, sf_InvalidText := ⟨⟨_, _, _, _, _, _, _, _, _, _, _, _, _, _, _, _, _, rfl, lI_InvalidText, cI_InvalidText, ce_InvalidText, cd_InvalidText, v2_InvalidText, fl_InvalidText⟩, p_top, PySem.W.mg_none_of X G z_super⟩, bI_InvalidText := bI_InvalidText, tc_InvalidText := tc_InvalidText, tf_InvalidText := tf_InvalidText, xf_InvalidText := ⟨ga_InvalidText, gg_InvalidText, ex_InvalidText, hd_InvalidText⟩, xa_InvalidText_at := xa_InvalidText_at, xa_InvalidText_code := xa_InvalidText_code, xa_InvalidText_given := xa_InvalidText_given, xa_InvalidText_limit := xa_InvalidText_limit, xa_InvalidText_line := xa_InvalidText_line, xa_InvalidText_most := xa_InvalidText_most, xa_InvalidText_name := xa_InvalidText_name, ca_InvalidText := ⟨em_InvalidText, ⟨ga_InvalidText, gg_InvalidText, ex_InvalidText, hd_InvalidText⟩, xa_InvalidText_code⟩, ox_NothingLeft := ⟨EXX.eb_IE, ni_NothingLeft, ov_NothingLeft, hd_NothingLeft, sa_NothingLeft, ex_NothingLeft, eb_NothingLeft, ty_NothingLeft, kc_NothingLeft, su_NothingLeft, z_any⟩, fI_NothingLeft := fI_NothingLeft, fdI_NothingLeft := _, cda_NothingLeft := cda_NothingLeft, ccc_NothingLeft := ccc_NothingLeft, iC_NothingLeft := iC_NothingLeft, tI_NothingLeft := ti_NothingLeft, sf_NothingLeft := ⟨⟨_, _, _, _, _, _, _, _, _, _, _, _, _, _, _, _, _, rfl, lI_NothingLeft, cI_NothingLeft, ce_NothingLeft, cd_NothingLeft, v2_NothingLeft, fl_NothingLeft⟩, p_top, PySem.W.mg_none_of X G z_super⟩, bI_NothingLeft := bI_NothingLeft, tc_NothingLeft := tc_NothingLeft, xf_NothingLeft := ⟨ga_NothingLeft, gg_NothingLeft, ex_NothingLeft, hd_NothingLeft⟩, xa_NothingLeft_at := xa_NothingLeft_at, xa_NothingLeft_code := xa_NothingLeft_code, xa_NothingLeft_given := xa_NothingLeft_given, xa_NothingLeft_limit := xa_NothingLeft_limit, xa_NothingLeft_line := xa_NothingLeft_line, xa_NothingLeft_most := xa_NothingLeft_most, xa_NothingLeft_name := xa_NothingLeft_name, ca_NothingLeft := ⟨em_NothingLeft, ⟨ga_NothingLeft, gg_NothingLeft, ex_NothingLeft, hd_NothingLeft⟩, xa_NothingLeft_code⟩, f_is_number := f_is_number, fd_is_number := _, F_is_number := F_is_number, m_is_number := PySem.W.mg_of X G a_is_number, b_is_number := b_is_number, f_is_byte := f_is_byte, fd_is_byte := _, F_is_byte := F_is_byte, m_is_byte := PySem.W.mg_of X G a_is_byte, b_is_byte := b_is_byte, f_are_bytes := f_are_bytes, fd_are_bytes := _, F_are_bytes := F_are_bytes, m_are_bytes := PySem.W.mg_of X G a_are_bytes, b_are_bytes := b_are_bytes, f_is_event := f_is_event, fd_is_event := _, F_is_event := F_is_event, m_is_event := PySem.W.mg_of X G a_is_event, b_is_event := b_is_event, f_is_plain_number := f_is_plain_number, fd_is_plain_number := _, F_is_plain_number := F_is_plain_number, m_is_plain_number := PySem.W.mg_of X G a_is_plain_number, b_is_plain_number := b_is_plain_number, f_read_event := f_read_event, fd_read_event := _, F_read_event := F_read_event, m_read_event := PySem.W.mg_of X G a_read_event, b_read_event := b_read_event, f__law_same := f__law_same, fd__law_same := _, F__law_same := F__law_same, m__law_same := PySem.W.mg_of X G a__law_same, b__law_same := b__law_same, f__law_field := f__law_field, fd__law_field := _, F__law_field := F__law_field, m__law_field := PySem.W.mg_of X G a__law_field, b__law_field := b__law_field, f__law_pull := f__law_pull, fd__law_pull := _, F__law_pull := F__law_pull, m__law_pull := PySem.W.mg_of X G a__law_pull, b__law_pull := b__law_pull, f__law_of := f__law_of, fd__law_of := _, F__law_of := F__law_of, m__law_of := PySem.W.mg_of X G a__law_of, b__law_of := b__law_of, f__law_number_so := f__law_number_so, fd__law_number_so := _, F__law_number_so := F__law_number_so, m__law_number_so := PySem.W.mg_of X G a__law_number_so, b__law_number_so := b__law_number_so, f__law_event_of := f__law_event_of, fd__law_event_of := _, F__law_event_of := F__law_event_of, m__law_event_of := PySem.W.mg_of X G a__law_event_of, b__law_event_of := b__law_event_of, f_event_text := f_event_text, fd_event_text := _, F_event_text := F_event_text, m_event_text := PySem.W.mg_of X G a_event_text, f__law_event_text := f__law_event_text, fd__law_event_text := _, F__law_event_text := F__law_event_text, m__law_event_text := PySem.W.mg_of X G a__law_event_text, b__law_event_text := b__law_event_text, f__law_bag := f__law_bag, fd__law_bag := _, F__law_bag := F__law_bag, m__law_bag := PySem.W.mg_of X G a__law_bag, b__law_bag := b__law_bag, cc_law := cc_law, P_law := P_law, tk_law := ⟨⟨np_law, _, a__law_try⟩, "law", f_law, cc_law, _, _, _, _, _, vs_law, by decide, a_law, l_law, rfl, lc_law, rfl, v11_law, rfl⟩, uq_law := uq_of tabs nd_ (by simp), f_law := f_law, fd_law := _, F_law := F_law, m_law := PySem.W.mg_of X G a_law, f__law_try := f__law_try, fd__law_try := _, F__law_try := F__law_try, m__law_try := PySem.W.mg_of X G a__law_try, b__law_try := b__law_try, n_all := PySem.W.mg_none_of X G z_all, n_bool := PySem.W.mg_none_of X G z_bool, n_dict := PySem.W.mg_none_of X G z_dict, n_int := PySem.W.mg_none_of X G z_int, n_isinstance := PySem.W.mg_none_of X G z_isinstance, n_len := PySem.W.mg_none_of X G z_len, n_list := PySem.W.mg_none_of X G z_list, n_range := PySem.W.mg_none_of X G z_range, n_str := PySem.W.mg_none_of X G z_str, n_tuple := PySem.W.mg_none_of X G z_tuple, n_zip := PySem.W.mg_none_of X G z_zip, u_DIGITS := .str "0123456789" t_DIGITS, c_DIGITS := PySem.W.mg_of X G q_DIGITS, r_DIGITS := ⟨_, rfl⟩, kb_event_text_0_event := kb_event_text_0_event, kb_read_event_0_text := kb_read_event_0_text } (hTB _ (List.mem_cons_self))⟩
  obtain ⟨nm, hm, -⟩ := tabs_of tabs t
  simp only [List.mem_cons, List.not_mem_nil, or_false, Prod.mk.injEq] at hm
  obtain ⟨rfl, rfl⟩ := hm
  exact ⟨_, (List.mem_cons_self), rfl⟩
end Mine
open PySem PySem.W PyProof.Rows
set_option maxRecDepth 100000 in
set_option maxHeartbeats 0 in
theorem PySem.Challenge.cw_headhold_k22_texts_of_events_holds : PySem.Challenge.rw_headhold_k22_texts_of_events.Holds := by
  w_on; o_law; k_head; (case hw => w_witness2)
  k_fill
  refine DL.law_end (l := PySem.Challenge.rw_headhold_k22_texts_of_events) (k := 17) (x := "_law_script") (c := DL.CtF Mine.m_law) rfl rfl ⟨rfl, by decide, by decide⟩ (fun w h Y => PySem.W.km_in_of Y) ?F ?hcl
  case F =>
    intro w mg fa h Y KX G hmg
    refine' Mine.fin_mk KX G hmg ?cA_InvalidText ?cA_Missing ?cA_NothingLeft ?cA_PlanError ?p_top ?z_super ?z_any ?iC_InvalidText ?ti_InvalidText ?lI_InvalidText ?cI_InvalidText ?ce_InvalidText ?cd_InvalidText ?v2_InvalidText ?fl_InvalidText ?ni_InvalidText ?ov_InvalidText ?hd_InvalidText ?sa_InvalidText ?ex_InvalidText ?eb_InvalidText ?ty_InvalidText ?kc_InvalidText ?su_InvalidText ?tc_InvalidText ?tf_InvalidText ?ga_InvalidText ?gg_InvalidText ?xa_InvalidText_at ?xa_InvalidText_code ?xa_InvalidText_given ?xa_InvalidText_limit ?xa_InvalidText_line ?xa_InvalidText_most ?xa_InvalidText_name ?em_InvalidText ?iC_NothingLeft ?ti_NothingLeft ?lI_NothingLeft ?cI_NothingLeft ?ce_NothingLeft ?cd_NothingLeft ?v2_NothingLeft ?fl_NothingLeft ?ni_NothingLeft ?ov_NothingLeft ?hd_NothingLeft ?sa_NothingLeft ?ex_NothingLeft ?eb_NothingLeft ?ty_NothingLeft ?kc_NothingLeft ?su_NothingLeft ?tc_NothingLeft ?ga_NothingLeft ?gg_NothingLeft ?xa_NothingLeft_at ?xa_NothingLeft_code ?xa_NothingLeft_given ?xa_NothingLeft_limit ?xa_NothingLeft_line ?xa_NothingLeft_most ?xa_NothingLeft_name ?em_NothingLeft ?a_is_number ?l_is_number ?co_is_number ?k_is_number ?a_is_byte ?l_is_byte ?co_is_byte ?k_is_byte ?a_are_bytes ?l_are_bytes ?co_are_bytes ?k_are_bytes ?a_is_event ?l_is_event ?co_is_event ?k_is_event ?a_is_plain_number ?l_is_plain_number ?co_is_plain_number ?k_is_plain_number ?a_read_event ?l_read_event ?co_read_event ?k_read_event ?a__law_same ?l__law_same ?co__law_same ?k__law_same ?a__law_field ?l__law_field ?co__law_field ?k__law_field ?a__law_pull ?l__law_pull ?co__law_pull ?k__law_pull ?a__law_of ?l__law_of ?co__law_of ?k__law_of ?a__law_number_so ?l__law_number_so ?co__law_number_so ?k__law_number_so ?a__law_event_of ?l__law_event_of ?co__law_event_of ?k__law_event_of ?a_event_text ?l_event_text ?co_event_text ?k_event_text ?a__law_event_text ?l__law_event_text ?co__law_event_text ?k__law_event_text ?a__law_bag ?l__law_bag ?co__law_bag ?k__law_bag ?a_law ?l_law ?lc_law ?v11_law ?np_law ?hc_law ?ht_law ?co_law ?k_law ?a__law_try ?l__law_try ?co__law_try ?k__law_try ?z_all ?z_bool ?z_dict ?z_int ?z_isinstance ?z_len ?z_list ?z_range ?z_str ?z_tuple ?z_zip ?q_DIGITS ?tabs ?nd_
    (case cA_InvalidText => k_is)
    (case cA_Missing => k_is)
    (case cA_NothingLeft => k_is)
    (case cA_PlanError => k_is)
    (case p_top => rfl)
    (case z_super => k_is)
    (case z_any => k_is)
    (case iC_InvalidText => k_is)
    (case ti_InvalidText => k_is)
    (case lI_InvalidText => k_is)
    (case cI_InvalidText => k_is)
    (case ce_InvalidText => k_is)
    (case cd_InvalidText => k_is)
    (case v2_InvalidText => rfl)
    (case fl_InvalidText => kernel_rfl)
    (case ni_InvalidText => kernel_rfl)
    (case ov_InvalidText => kernel_rfl)
    (case hd_InvalidText => k_is)
    (case sa_InvalidText => k_is)
    (case ex_InvalidText => k_is)
    (case eb_InvalidText => k_is)
    (case ty_InvalidText => k_is)
    (case kc_InvalidText => k_is)
    (case su_InvalidText => kernel_rfl)
    (case tc_InvalidText => k_is)
    (case tf_InvalidText => k_is)
    (case ga_InvalidText => k_is)
    (case gg_InvalidText => k_is)
    (case xa_InvalidText_at => k_is)
    (case xa_InvalidText_code => k_is)
    (case xa_InvalidText_given => k_is)
    (case xa_InvalidText_limit => k_is)
    (case xa_InvalidText_line => k_is)
    (case xa_InvalidText_most => k_is)
    (case xa_InvalidText_name => k_is)
    (case em_InvalidText => kernel_rfl)
    (case iC_NothingLeft => k_is)
    (case ti_NothingLeft => k_is)
    (case lI_NothingLeft => k_is)
    (case cI_NothingLeft => k_is)
    (case ce_NothingLeft => k_is)
    (case cd_NothingLeft => k_is)
    (case v2_NothingLeft => rfl)
    (case fl_NothingLeft => kernel_rfl)
    (case ni_NothingLeft => kernel_rfl)
    (case ov_NothingLeft => kernel_rfl)
    (case hd_NothingLeft => k_is)
    (case sa_NothingLeft => k_is)
    (case ex_NothingLeft => k_is)
    (case eb_NothingLeft => k_is)
    (case ty_NothingLeft => k_is)
    (case kc_NothingLeft => k_is)
    (case su_NothingLeft => kernel_rfl)
    (case tc_NothingLeft => k_is)
    (case ga_NothingLeft => k_is)
    (case gg_NothingLeft => k_is)
    (case xa_NothingLeft_at => k_is)
    (case xa_NothingLeft_code => k_is)
    (case xa_NothingLeft_given => k_is)
    (case xa_NothingLeft_limit => k_is)
    (case xa_NothingLeft_line => k_is)
    (case xa_NothingLeft_most => k_is)
    (case xa_NothingLeft_name => k_is)
    (case em_NothingLeft => kernel_rfl)
    (case a_is_number => k_is)
    (case l_is_number => k_is)
    (case co_is_number => k_is)
    (case k_is_number => k_is)
    (case a_is_byte => k_is)
    (case l_is_byte => k_is)
    (case co_is_byte => k_is)
    (case k_is_byte => k_is)
    (case a_are_bytes => k_is)
    (case l_are_bytes => k_is)
    (case co_are_bytes => k_is)
    (case k_are_bytes => k_is)
    (case a_is_event => k_is)
    (case l_is_event => k_is)
    (case co_is_event => k_is)
    (case k_is_event => k_is)
    (case a_is_plain_number => k_is)
    (case l_is_plain_number => k_is)
    (case co_is_plain_number => k_is)
    (case k_is_plain_number => k_is)
    (case a_read_event => k_is)
    (case l_read_event => k_is)
    (case co_read_event => k_is)
    (case k_read_event => k_is)
    (case a__law_same => k_is)
    (case l__law_same => k_is)
    (case co__law_same => k_is)
    (case k__law_same => k_is)
    (case a__law_field => k_is)
    (case l__law_field => k_is)
    (case co__law_field => k_is)
    (case k__law_field => k_is)
    (case a__law_pull => k_is)
    (case l__law_pull => k_is)
    (case co__law_pull => k_is)
    (case k__law_pull => k_is)
    (case a__law_of => k_is)
    (case l__law_of => k_is)
    (case co__law_of => k_is)
    (case k__law_of => k_is)
    (case a__law_number_so => k_is)
    (case l__law_number_so => k_is)
    (case co__law_number_so => k_is)
    (case k__law_number_so => k_is)
    (case a__law_event_of => k_is)
    (case l__law_event_of => k_is)
    (case co__law_event_of => k_is)
    (case k__law_event_of => k_is)
    (case a_event_text => k_is)
    (case l_event_text => k_is)
    (case co_event_text => k_is)
    (case k_event_text => k_is)
    (case a__law_event_text => k_is)
    (case l__law_event_text => k_is)
    (case co__law_event_text => k_is)
    (case k__law_event_text => k_is)
    (case a__law_bag => k_is)
    (case l__law_bag => k_is)
    (case co__law_bag => k_is)
    (case k__law_bag => k_is)
    (case a_law => k_is)
    (case l_law => k_is)
    (case lc_law => k_is)
    (case v11_law => rfl)
    (case np_law => kernel_rfl)
    (case hc_law => kernel_rfl)
    (case ht_law => exact PySem.W.km_tabs_of Y _ (by k_mem))
    (case co_law => k_is)
    (case k_law => k_is)
    (case a__law_try => k_is)
    (case l__law_try => k_is)
    (case co__law_try => k_is)
    (case k__law_try => k_is)
    (case z_all => k_is)
    (case z_bool => k_is)
    (case z_dict => k_is)
    (case z_int => k_is)
    (case z_isinstance => k_is)
    (case z_len => k_is)
    (case z_list => k_is)
    (case z_range => k_is)
    (case z_str => k_is)
    (case z_tuple => k_is)
    (case z_zip => k_is)
    (case q_DIGITS => k_is)
    (case tabs => kernel_rfl)
    (case nd_ => decide)
  case hcl => exact fun ns Φ h1 h2 => DL.ctf_law (Mine.law_true ns h1) h2
end
