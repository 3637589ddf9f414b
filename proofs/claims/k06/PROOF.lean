import PyProof.Rows.All
import Wide.All
import OpenK.AllK
import Wide.FinOn
import KE.KStateDown
import HandS.ForMost
import HandS.More
import HandS.WordsExc
import HandS.Defaults
import HandS.Property
import HandS.Style
import HandS.NoneIn
import HandS.Small
import HandS.Zip
import HandS.DictComp
import HandS.TupAny
import HandS.Deep
import PyProof.NeData
import HandS.IsInst
import HandS.Conv
import HandS.Text
import HandS.MakeKwOnly
import HandS.Strs
import HandS.TupSets
import HandS.Head0
import HandS.Head1
import HandS.Head2
import HandS.HeadEnd
import HandS.HeadHook1
import HandS.HeadHook2
import HandS.Star
import KE.SortData
import KE.DataMinMax
import HandS.DictSubView
import HandS.Set
import HandS.SetTxt0
import HandS.SetFor
import HandS.Iter
import KE.KEqDict
import KE.KDictZip
import PyProof.TupleOfSeq
import HandS.Finally
import KE.SortCalls
import HandS.TupLe
import KE.GoesMore
import KE.KDictList
import KE.KIndexWalk
import Lean
import PySem.Challenge.RW_roundways_k06_rings_of_mixtures
set_option Elab.async false
set_option linter.all false
set_option maxRecDepth 100000
/-! Lite: a layer of plain data D over the hand layer: values that are read as data, lists and dicts of one's own, a thing that is drawn from. -/
namespace RW
open PySem L2
/-! ### data -/
inductive D where
  | non | bl (b : Bool) | int (i : Int) | str (x : Str) | lst (xs : List D) | tup (xs : List D) | dct (t : Bool) (kvs : List (D × D)) | obj (c : Nat) (fs : List (Str × D)) | res | scr (ns : List Int)
instance : Inhabited D := ⟨.non⟩
/-- what is drawn from: its states, its handle, where it stands -/
structure Rsc where
  S : Type
  ad : Addr
  foot : Addr → Prop
  At : S → Hp → Prop
  stay : ∀ {s : S} {H H' : Hp}, At s H → (∀ a, foot a → H' a = H a) → At s H'
  there : ∀ {s : S} {H : Hp} {a : Addr}, At s H → foot a → ∃ o, H a = some o ∧ ∀ xs, o ≠ .tup xs
structure G where
  K : PySem.W.Frag
  cls : Nat → Addr
  R : Rsc
def keyD : Key → D
  | .inl i => .int i
  | .inr x => .str x
/-- the tuples of the module that may be met (class 1000 says which: 1: a default's (), 2: the wishes) -/
def ktOk (n : Addr) : List D → Bool
  | [] => n == 1
  | _ => n == 2
def KTup (K : PySem.W.Frag) (a : Addr) (xs : List V) : Prop := ∃ (o : Obj) (its : Array Value) (n : Nat), K.lookup a = some o ∧ o.cls = .type "tuple" ∧ o.data = .seq its n ∧ its.size ≤ sizeLine ∧ Vals xs its.toList
mutual
inductive Rep (g : G) (F : Hp) : V → D → Prop
  | non : Rep g F .non .non
  | bl (b : Bool) : Rep g F (.bl b) (.bl b)
  | int (i : Int) : Rep g F (.int i) (.int i)
  | str (x : Str) : Rep g F (.str x) (.str x)
  | ref {a : Addr} {o : HO} {d : D} : F a = some o → RepO g F o d → Rep g F (.ref a) d
  | tup {a : Addr} {xs : List V} {ds : List D} : F a = some (.tup xs) → RepAll g F xs ds → Rep g F (.ref a) (.tup ds)
  | kt {a : Addr} {xs : List V} {ds : List D} : KTup g.K a xs → RepAll g F xs ds → ktOk (g.cls 1000) ds = true → Rep g F (.ref a) (.tup ds)
  | res : Rep g F (.ref g.R.ad) .res
  | kscr {a : Addr} {ns : List Int} : (∀ H, SqL g.K H a (ns.map V.int)) → Rep g F (.ref a) (.scr ns)
inductive RepO (g : G) (F : Hp) : HO → D → Prop
  | lst {xs : List V} {ds : List D} : RepAll g F xs ds → RepO g F (.lst xs) (.lst ds)
  | dK {kvs : List (Key × V)} {es : List (D × D)} : RepK g F kvs es → RepO g F (.dK kvs) (.dct false es)
  | dT {kvs : List (List Key × V)} {es : List (D × D)} : RepT g F kvs es → RepO g F (.dT kvs) (.dct true es)
  | ins {c : Nat} {dx : Addr} {fs : List (Str × V)} {ds : List (Str × D)} : RepF g F fs ds → RepO g F (.ins (g.cls c) dx fs) (.obj c ds)
  | scr {o : Obj} {ns : List Int} : RepO g F (.frz o (.lst (ns.map V.int))) (.scr ns)
inductive RepAll (g : G) (F : Hp) : List V → List D → Prop
  | nil : RepAll g F [] []
  | cons {v : V} {vs : List V} {d : D} {ds : List D} : Rep g F v d → RepAll g F vs ds → RepAll g F (v :: vs) (d :: ds)
inductive RepK (g : G) (F : Hp) : List (Key × V) → List (D × D) → Prop
  | nil : RepK g F [] []
  | cons {k : Key} {v : V} {kvs : List (Key × V)} {d : D} {es : List (D × D)} : Rep g F v d → RepK g F kvs es → RepK g F ((k, v) :: kvs) ((keyD k, d) :: es)
inductive RepT (g : G) (F : Hp) : List (List Key × V) → List (D × D) → Prop
  | nil : RepT g F [] []
  | cons {k : List Key} {v : V} {kvs : List (List Key × V)} {d : D} {es : List (D × D)} : Rep g F v d → RepT g F kvs es → RepT g F ((k, v) :: kvs) ((.tup (k.map keyD), d) :: es)
inductive RepF (g : G) (F : Hp) : List (Str × V) → List (Str × D) → Prop
  | nil : RepF g F [] []
  | cons {f : Str} {v : V} {fs : List (Str × V)} {d : D} {ds : List (Str × D)} : Rep g F v d → RepF g F fs ds → RepF g F ((f, v) :: fs) ((f, d) :: ds)
end
def Le (F F' : Hp) : Prop := ∀ a o, F a = some o → F' a = some o
theorem Le.refl (F : Hp) : Le F F := fun _ _ h => h
theorem Le.trans {F F1 F2 : Hp} (a : Le F F1) (b : Le F1 F2) : Le F F2 := fun x o h => b x o (a x o h)
section
variable {g : G} {F F' : Hp} (le : Le F F')
include le
mutual
theorem Rep.mono : ∀ {v d}, Rep g F v d → Rep g F' v d
  | _, _, .non => .non
  | _, _, .bl b => .bl b
  | _, _, .int i => .int i
  | _, _, .str x => .str x
  | _, _, .ref h o => .ref (le _ _ h) (RepO.mono o)
  | _, _, .tup h o => .tup (le _ _ h) (RepAll.mono o)
  | _, _, .kt h o n => .kt h (RepAll.mono o) n
  | _, _, .res => .res
  | _, _, .kscr h => .kscr h
theorem RepO.mono : ∀ {v d}, RepO g F v d → RepO g F' v d
  | _, _, .lst h => .lst (RepAll.mono h)
  | _, _, .dK h => .dK (RepK.mono h)
  | _, _, .dT h => .dT (RepT.mono h)
  | _, _, .ins h => .ins (RepF.mono h)
  | _, _, .scr => .scr
theorem RepAll.mono : ∀ {v d}, RepAll g F v d → RepAll g F' v d
  | _, _, .nil => .nil
  | _, _, .cons h t => .cons (Rep.mono h) (RepAll.mono t)
theorem RepK.mono : ∀ {v d}, RepK g F v d → RepK g F' v d
  | _, _, .nil => .nil
  | _, _, .cons h t => .cons (Rep.mono h) (RepK.mono t)
theorem RepT.mono : ∀ {v d}, RepT g F v d → RepT g F' v d
  | _, _, .nil => .nil
  | _, _, .cons h t => .cons (Rep.mono h) (RepT.mono t)
theorem RepF.mono : ∀ {v d}, RepF g F v d → RepF g F' v d
  | _, _, .nil => .nil
  | _, _, .cons h t => .cons (Rep.mono h) (RepF.mono t)
end
end
/-- no tuple: a thing that may be one's own -/
def NT (o : HO) : Prop := ∀ xs, o ≠ .tup xs
theorem RepO.nt {g : G} {F : Hp} {o : HO} {d : D} (h : RepO g F o d) : NT o := by
  cases h <;> exact fun _ z => nomatch z
def IsDict (o : HO) : Prop := (∃ kvs, o = .dK kvs) ∨ ∃ kvs, o = .dT kvs
/-- what is known of the heap for good; dicts may be locked -/
def Sub (F H : Hp) : Prop := ∀ a o, F a = some o → H a = some o ∨ (IsDict o ∧ ∃ ob, H a = some (.frz ob o))
/-- what may be read as data d -/
def Pk (g : G) (F H : Hp) (v : V) (d : D) : Prop := Rep g F v d ∨ ∃ p o, v = .ref p ∧ H p = some o ∧ RepO g F o d
structure Cell where
  d : D
  own : Bool
structure S (R : Type) where
  e : List (Option Cell)
  r : R
abbrev M (R α : Type) := S R → Option (α × S R)
/-- what an expression gives: data that are kept, a new list, dict or object, or what a slot owns -/
inductive Vr where
  | sh (d : D) | tmp (d : D) | sl (i : Nat)
def Own (σ : St) (e : List (Option Cell)) (a : Addr) : Prop := ∃ (i : Nat) (c : Cell), e[i]? = some (some c) ∧ c.own = true ∧ σ[i]? = some (some (.ref a))
def CellOk (g : G) (F H : Hp) (c : Cell) (v : V) : Prop :=
  (c.own = false ∧ Rep g F v c.d) ∨ (c.own = true ∧ ∃ p o, v = .ref p ∧ F p = none ∧ ¬ g.R.foot p ∧ H p = some o ∧ RepO g F o c.d)
structure Sim (g : G) (F : Hp) (s : S g.R.S) (σ : St) (H : Hp) : Prop where
  sub : Sub F H
  at_ : g.R.At s.r H
  foot : ∀ a, g.R.foot a → F a = none
  len : s.e.length = σ.length
  cell : ∀ (i : Nat) (c : Cell), s.e[i]? = some (some c) → ∃ v, σ[i]? = some (some v) ∧ CellOk g F H c v
  apart : ∀ (i j : Nat) (ci cj : Cell) (a : Addr), i ≠ j → s.e[i]? = some (some ci) → s.e[j]? = some (some cj) → ci.own = true → cj.own = true → σ[i]? = some (some (.ref a)) → σ[j]? ≠ some (some (.ref a))
/-- what a step leaves as it was -/
structure Keep (g : G) (F : Hp) (s : S g.R.S) (σ : St) (H : Hp) (F' : Hp) (s' : S g.R.S) (σ' : St) (H' : Hp) : Prop where
  heap : ∀ a o, H a = some o → ¬ Own σ s.e a → ¬ g.R.foot a → H' a = some o
  grow : Le F F'
  nof : ∀ a o, H a = some o → NT o → F a = none → ¬ Own σ s.e a → F' a = none
  own : ∀ a, Own σ' s'.e a → Own σ s.e a ∨ H a = none
  there : ∀ a o, H a = some o → ∃ o', H' a = some o'
theorem Keep.refl {g : G} {F : Hp} {s : S g.R.S} {σ : St} {H : Hp} : Keep g F s σ H F s σ H := ⟨fun _ _ h _ _ => h, Le.refl _, fun _ _ _ _ h _ => h, fun _ h => .inl h, fun _ o h => ⟨o, h⟩⟩
theorem Sim.own_at {g : G} {F : Hp} {s : S g.R.S} {σ : St} {H : Hp} (I : Sim g F s σ H) {a : Addr} (h : Own σ s.e a) : F a = none ∧ ¬ g.R.foot a ∧ ∃ o, H a = some o ∧ NT o := by
  obtain ⟨i, c, e1, e2, e3⟩ := h
  obtain ⟨v, e4, q⟩ := I.cell i c e1
  rw [e3] at e4
  cases e4
  rcases q with ⟨z, _⟩ | ⟨_, p, o, e, h1, h2, h3, h4⟩
  · rw [e2] at z; cases z
  · cases e
    exact ⟨h1, h2, o, h3, h4.nt⟩
theorem Keep.trans {g : G} {F F1 F2 : Hp} {s s1 s2 : S g.R.S} {σ σ1 σ2 : St} {H H1 H2 : Hp} (a : Keep g F s σ H F1 s1 σ1 H1) (b : Keep g F1 s1 σ1 H1 F2 s2 σ2 H2) (I2 : Sim g F2 s2 σ2 H2) : Keep g F s σ H F2 s2 σ2 H2 := by
  have no : ∀ x o, H x = some o → ¬ Own σ s.e x → ¬ Own σ1 s1.e x := fun x o h n z => by
    rcases a.own x z with z | z
    · exact n z
    · rw [h] at z; cases z
  refine ⟨fun x o h n nf => b.heap x o (a.heap x o h n nf) (no x o h n) nf, a.grow.trans b.grow, fun x o h nt hF n => ?_, fun x z => ?_, fun x o h => let ⟨o1, h1⟩ := a.there x o h; b.there x o1 h1⟩
  · by_cases nf : g.R.foot x
    · exact I2.foot x nf
    · exact b.nof x o (a.heap x o h n nf) nt (a.nof x o h nt hF n) (no x o h n)
  · have nf := (I2.own_at z).2.1
    rcases b.own x z with z | z
    · exact a.own x z
    · by_cases ho : Own σ s.e x
      · exact .inl ho
      · right
        cases q : H x with
        | none => rfl
        | some o => rw [a.heap x o q ho nf] at z; cases z
end RW
namespace RW
open PySem L2
/-! ### a step that only adds -/
structure Ext (F H F' H' : Hp) : Prop where
  le : Le F F'
  heap : ∀ a o, H a = some o → H' a = some o
  nof : ∀ a o, H a = some o → NT o → F a = none → F' a = none
  sub : Sub F' H'
theorem Ext.refl {F H : Hp} (h : Sub F H) : Ext F H F H := ⟨Le.refl _, fun _ _ h => h, fun _ _ _ _ h => h, h⟩
theorem upd_le {F : Hp} {p : Addr} {o : HO} (h : F p = none) : Le F (upd F p o) := fun a u e => by rw [upd_ne (ne_of_none e h)]; exact e
theorem Sub.free {F H : Hp} (h : Sub F H) {p : Addr} (e : H p = none) : F p = none := by
  cases q : F p with
  | none => rfl
  | some o => rcases h p o q with z | ⟨_, ob, z⟩ <;> (rw [e] at z; cases z)
/-- a new thing, kept for good -/
theorem Ext.new {F H : Hp} (h : Sub F H) {p : Addr} {o : HO} (e : H p = none) : Ext F H (upd F p o) (upd H p o) := by
  refine ⟨upd_le (h.free e), upd_le e, fun a u q _ r => ?_, fun a u q => ?_⟩
  · rw [upd_ne (ne_of_none q e)]; exact r
  · by_cases z : a = p
    · subst z; rw [upd_same] at q; cases q; exact .inl upd_same
    · rw [upd_ne z] at q
      rw [upd_ne z]; exact h a u q
/-- a new thing of one's own -/
theorem Ext.tmp {F H : Hp} (h : Sub F H) {p : Addr} {o : HO} (e : H p = none) : Ext F H F (upd H p o) := by
  refine ⟨Le.refl _, upd_le e, fun _ _ _ _ r => r, fun a u q => ?_⟩
  have z : a ≠ p := fun z => by rw [z, h.free e] at q; cases q
  rw [upd_ne z]; exact h a u q
theorem Ext.trans {F H F1 H1 F2 H2 : Hp} (a : Ext F H F1 H1) (b : Ext F1 H1 F2 H2) : Ext F H F2 H2 :=
  ⟨a.le.trans b.le, fun x o h => b.heap x o (a.heap x o h), fun x o h nt r => b.nof x o (a.heap x o h) nt (a.nof x o h nt r), b.sub⟩
section
variable {g : G} {F F' : Hp} {s s' : S g.R.S} {σ : St} {H H' : Hp}
theorem CellOk.ext {c : Cell} {v : V} (h : CellOk g F H c v) (x : Ext F H F' H') : CellOk g F' H' c v := by
  rcases h with ⟨a, b⟩ | ⟨a, p, o, b1, b2, b3, b4, b5⟩
  · exact .inl ⟨a, b.mono x.le⟩
  · exact .inr ⟨a, p, o, b1, x.nof _ _ b4 b5.nt b2, b3, x.heap _ _ b4, b5.mono x.le⟩
theorem Sim.nofoot (I : Sim g F s σ H) {a : Addr} (h : H a = none) : ¬ g.R.foot a := fun z => by
  obtain ⟨o, e, _⟩ := g.R.there I.at_ z
  rw [h] at e; cases e
theorem Sim.ext (I : Sim g F s σ H) (x : Ext F H F' H') : Sim g F' s σ H' := by
  refine ⟨x.sub, g.R.stay I.at_ fun a ha => ?_, fun a ha => ?_, I.len, fun i c e => ?_, I.apart⟩
  · obtain ⟨o, e, _⟩ := g.R.there I.at_ ha
    rw [e]; exact x.heap a o e
  · obtain ⟨o, e, nt⟩ := g.R.there I.at_ ha
    exact x.nof a o e nt (I.foot a ha)
  · obtain ⟨v, e1, q⟩ := I.cell i c e
    exact ⟨v, e1, q.ext x⟩
theorem Keep.ext (x : Ext F H F' H') : Keep g F s σ H F' s σ H' := ⟨fun a o h _ _ => x.heap a o h, x.le, fun a o h nt r _ => x.nof a o h nt r, fun _ h => .inl h, fun a o h => ⟨o, x.heap a o h⟩⟩
/-! ### what an expression gives -/
def VOk (g : G) (F : Hp) (s : S g.R.S) (σ : St) (H0 H : Hp) : Vr → V → Prop
  | .sh d, v => Rep g F v d
  | .tmp d, v => ∃ p o, v = .ref p ∧ H0 p = none ∧ F p = none ∧ ¬ g.R.foot p ∧ ¬ Own σ s.e p ∧ H p = some o ∧ RepO g F o d
  | .sl i, v => σ[i]? = some (some v)
def tM (g : G) (m : M g.R.S Vr) : TE := fun σ H Q => ∃ F s res s', Sim g F s σ H ∧ m s = some (res, s') ∧
  ∀ F' v H', Sim g F' s' σ H' → Keep g F s σ H F' s' σ H' → VOk g F' s' σ H H' res v → Q v H'
def DE (g : G) (X : Cx) (e : Expr) (m : M g.R.S Vr) : Prop := PE X e (tM g m)
theorem PE.imp {X : Cx} {e : Expr} {t t' : TE} (h : PE X e t) (w : ∀ σ H Q, t' σ H Q → t σ H Q) : PE X e t' := ⟨fun pins s σ H Q I q => h.run pins s σ H Q I (w _ _ _ q)⟩
def soft : Vr → Vr
  | .tmp d => .sh d
  | r => r
/-- what is given, softened: kept data, or a slot -/
def WOk (g : G) (F : Hp) (σ : St) : Vr → V → Prop
  | .sh d, v => Rep g F v d
  | .tmp _, _ => False
  | .sl i, v => σ[i]? = some (some v)
theorem VOk.soft {H0 : Hp} {r : Vr} {v : V} {F0 : Hp} {s0 : S g.R.S} (I : Sim g F s σ H) (k : Keep g F0 s0 σ H0 F s σ H) (h : VOk g F s σ H0 H r v) : ∃ F', Sim g F' s σ H ∧ Keep g F0 s0 σ H0 F' s σ H ∧ WOk g F' σ (soft r) v := by
  cases r with
  | sh d => exact ⟨F, I, k, h⟩
  | sl i => exact ⟨F, I, k, h⟩
  | tmp d =>
    obtain ⟨p, o, rfl, h0, h1, h2, h3, h4, h5⟩ := h
    have le : Le F (upd F p o) := upd_le h1
    refine ⟨upd F p o, ⟨fun a u q => ?_, I.at_, fun a ha => ?_, I.len, fun i c e => ?_, I.apart⟩, ⟨k.heap, k.grow.trans le, fun a u q nt r n => ?_, k.own, k.there⟩, .ref upd_same (h5.mono le)⟩
    · by_cases z : a = p
      · subst z; rw [upd_same] at q; cases q; exact .inl h4
      · rw [upd_ne z] at q; exact I.sub a u q
    · rw [upd_ne (fun (z : a = p) => h2 (by rw [← z]; exact ha))]; exact I.foot a ha
    · obtain ⟨v, e1, q⟩ := I.cell i c e
      refine ⟨v, e1, ?_⟩
      rcases q with ⟨a, b⟩ | ⟨a, p', o', b1, b2, b3, b4, b5⟩
      · exact .inl ⟨a, b.mono le⟩
      · refine .inr ⟨a, p', o', b1, ?_, b3, b4, b5.mono le⟩
        rw [upd_ne (fun z => h3 ⟨i, c, e, a, by rw [e1, b1, z]⟩)]; exact b2
    · rw [upd_ne (fun z => by rw [z, h0] at q; cases q)]; exact k.nof a u q nt r n
theorem WOk.keep {F1 : Hp} {r : Vr} {v : V} (h : WOk g F σ r v) (le : Le F F1) : WOk g F1 σ r v := by
  cases r with
  | sh d => exact Rep.mono le h
  | sl i => exact h
  | tmp d => exact h
def pk {R : Type} : Vr → S R → Option D
  | .sh d, _ => some d
  | .tmp d, _ => some d
  | .sl i, s => match s.e[i]? with
    | some (some c) => some c.d
    | _ => none
theorem WOk.pk {r : Vr} {v : V} {d : D} (I : Sim g F s σ H) (h : WOk g F σ r v) (e : pk r s = some d) : Pk g F H v d := by
  cases r with
  | sh d' => cases e; exact .inl h
  | tmp d' => exact h.elim
  | sl i =>
    have h : σ[i]? = some (some v) := h
    have e : (match s.e[i]? with | some (some c) => some c.d | _ => none) = some d := e
    cases ec : s.e[i]? with
    | none => rw [ec] at e; cases e
    | some oc =>
      cases oc with
      | none => rw [ec] at e; cases e
      | some c =>
        rw [ec] at e
        cases e
        obtain ⟨v', e1, q⟩ := I.cell i c ec
        rw [h] at e1; cases e1
        rcases q with ⟨_, b⟩ | ⟨_, p, o, b1, _, _, b4, b5⟩
        · exact .inl b
        · exact .inr ⟨p, o, b1, b4, b5⟩
/-- what is to be shown of a value that an operation gives -/
def Fin (g : G) (F H : Hp) : Vr → VK → Prop
  | .sh d, Q => ∀ F' v H', Ext F H F' H' → Rep g F' v d → Q v H'
  | .tmp d, Q => ∀ F' p o H', Ext F H F' H' → H p = none → F' p = none → H' p = some o → RepO g F' o d → Q (.ref p) H'
  | .sl _, _ => False
theorem fin_of {z : Vr} {Q : VK} {F0 : Hp} {s0 : S g.R.S} {H0 : Hp} (I : Sim g F s σ H) (k : Keep g F0 s0 σ H0 F s σ H) (hz : ∀ i, z ≠ .sl i)
    (h : ∀ F' v H', Sim g F' s σ H' → Keep g F0 s0 σ H0 F' s σ H' → VOk g F' s σ H0 H' z v → Q v H') : Fin g F H z Q := by
  cases z with
  | sl i => exact (hz i rfl).elim
  | sh d => exact fun F' v H' x r => h F' v H' (I.ext x) (k.trans (Keep.ext x) (I.ext x)) r
  | tmp d =>
    intro F' p o H' x hp hF hH r
    have I' := I.ext x
    have nown : ¬ Own σ s.e p := fun z => by
      obtain ⟨o, e, _⟩ := (I.own_at z).2.2
      rw [hp] at e; cases e
    refine h F' (.ref p) H' I' (k.trans (Keep.ext x) I') ⟨p, o, rfl, ?_, hF, I.nofoot hp, nown, hH, r⟩
    cases q : H0 p with
    | none => rfl
    | some u =>
      obtain ⟨o', e⟩ := k.there p u q
      rw [hp] at e; cases e
end
end RW
namespace RW
open PySem L2
section
variable {g : G} {X : Cx}
/-! ### tests -/
def tMB (g : G) (m : M g.R.S Vr) : TT := fun σ H Q => ∃ F s b s', Sim g F s σ H ∧ m s = some (.sh (.bl b), s') ∧ ∀ F' H', Sim g F' s' σ H' → Keep g F s σ H F' s' σ H' → Q b H'
def DT (g : G) (X : Cx) (e : Expr) (m : M g.R.S Vr) : Prop := PT X e (tMB g m)
def DW (g : G) (X : Cx) (e : Expr) (m : M g.R.S Vr) : Prop := PW X e (tMB g m)
theorem PT.imp {X : Cx} {e : Expr} {t t' : TT} (h : PT X e t) (w : ∀ σ H Q, t' σ H Q → t σ H Q) : PT X e t' := ⟨fun pins s σ H Q I q => h.run pins s σ H Q I (w _ _ _ q)⟩
theorem PW.imp {X : Cx} {e : Expr} {t t' : TT} (h : PW X e t) (w : ∀ σ H Q, t' σ H Q → t σ H Q) : PW X e t' := ⟨fun wh pins s σ H Q I q => h.run wh pins s σ H Q I (w _ _ _ q)⟩
theorem DW.t {e : Expr} {m : M g.R.S Vr} (h : DW g X e m) : DT g X e m := L2.PW.pt h
/-- from a value's reading to a test's -/
theorem tTest_of {m : M g.R.S Vr} {t : TE} (w : ∀ σ H Q, tM g m σ H Q → t σ H Q) {σ : St} {H : Hp} {Q : Bool → Hp → Prop} (h : tMB g m σ H Q) : t σ H fun x H' => ∃ k, x = .bl k ∧ Q k H' := by
  obtain ⟨F, s, b, s', I, e, k⟩ := h
  refine w _ _ _ ⟨F, s, _, s', I, e, fun F' v H' I' K' r => ?_⟩
  have r : Rep g F' v (.bl b) := r
  cases r with
  | bl => exact ⟨b, rfl, k F' H' I' K'⟩
  | ref _ z => cases z
/-! ### names and constants -/
def mV {R : Type} (i : Nat) : M R Vr := fun s => match s.e[i]? with
  | some (some c) => some (if c.own then .sl i else .sh c.d, s)
  | _ => none
def mC {R : Type} (d : D) : M R Vr := fun s => some (.sh d, s)
theorem d_var {e : Expr} {i : Nat} (h : PE X e (tVar i)) : DE g X e (mV i) := by
  refine PE.imp h fun σ H Q ⟨F, s, res, s', I, e, k⟩ => ?_
  unfold mV at e
  split at e
  · rename_i c ec
    cases e
    obtain ⟨v, e1, q⟩ := I.cell i c ec
    refine ⟨v, e1, k F v H I Keep.refl ?_⟩
    cases ho : c.own with
    | true => exact e1
    | false =>
      rcases q with ⟨_, q⟩ | ⟨z, _⟩
      · exact q
      · rw [ho] at z; cases z
  · cases e
theorem d_c {e : Expr} {v : V} {d : D} (h : PE X e (tC v)) (r : ∀ F, Rep g F v d) : DE g X e (mC d) := by
  refine PE.imp h fun σ H Q ⟨F, s, res, s', I, e, k⟩ => ?_
  cases e
  exact k F v H I Keep.refl (r F)
theorem d_int {i j pos} : DE g X (.Constant (.int i) j pos) (mC (.int i)) := d_c pe_int fun _ => .int _
theorem d_bl {b j pos} : DE g X (.Constant (.bool b) j pos) (mC (.bl b)) := d_c pe_bl fun _ => .bl _
theorem d_non {j pos} : DE g X (.Constant .none j pos) (mC .non) := d_c pe_non fun _ => .non
theorem d_str {x j pos} : DE g X (.Constant (.str x) j pos) (mC (.str x)) := d_c pe_str fun _ => .str _
theorem d_gint {x : Str} {i : Int} {t : Tok} {pos : Pos} (hg : Gl X x) (hm : X.mg x = some (.int i t)) (hd : (x == ("__debug__" : Str)) = false := by decide) : DE g X (.Name x pos) (mC (.int i)) := d_c (pe_glob hg hm (v := .int i) ⟨t, rfl⟩ hd) fun _ => .int _
theorem d_gstr {x z : Str} {t : Tok} {pos : Pos} (hg : Gl X x) (hm : X.mg x = some (.str z t)) (hd : (x == ("__debug__" : Str)) = false := by decide) : DE g X (.Name x pos) (mC (.str z)) := d_c (pe_glob hg hm (v := .str z) ⟨t, rfl⟩ hd) fun _ => .str _
/-! ### operations upon values -/
structure Op1 (g : G) (f : D → Option Vr) (r : V → Hp → VK → Prop) : Prop where
  no : ∀ x z, f x = some z → ∀ i, z ≠ .sl i
  ok : ∀ F H x dx z Q, Sub F H → Pk g F H x dx → f dx = some z → Fin g F H z Q → r x H Q
structure Op2 (g : G) (f : D → D → Option Vr) (r : R2) : Prop where
  no : ∀ x y z, f x y = some z → ∀ i, z ≠ .sl i
  ok : ∀ F H x y dx dy z Q, Sub F H → Pk g F H x dx → Pk g F H y dy → f dx dy = some z → Fin g F H z Q → r x y H Q
def mOp1 {R : Type} (f : D → Option Vr) (ma : M R Vr) : M R Vr := fun s => (ma s).bind fun p => (pk (soft p.1) p.2).bind fun x => (f x).map fun z => (z, p.2)
def mOp2 {R : Type} (f : D → D → Option Vr) (ma mb : M R Vr) : M R Vr := fun s =>
  (ma s).bind fun p => (mb p.2).bind fun q => (pk (soft p.1) q.2).bind fun x => (pk (soft q.1) q.2).bind fun y => (f x y).map fun z => (z, q.2)
/-- one value, softened -/
theorem tM_soft {m : M g.R.S Vr} {σ : St} {H : Hp} {Q : VK} {F : Hp} {s s' : S g.R.S} {res : Vr} (I : Sim g F s σ H) (e : m s = some (res, s'))
    (h : ∀ F' v H', Sim g F' s' σ H' → Keep g F s σ H F' s' σ H' → WOk g F' σ (soft res) v → Q v H') : tM g m σ H Q := by
  refine ⟨F, s, res, s', I, e, fun F' v H' I' K' r => ?_⟩
  obtain ⟨F2, I2, K2, w⟩ := r.soft I' K'
  exact h F2 v H' I2 K2 w
theorem tOp1_of {f : D → Option Vr} {r : V → Hp → VK → Prop} (ok : Op1 g f r) {ma : M g.R.S Vr} {σ : St} {H : Hp} {Q : VK} (h : tM g (mOp1 f ma) σ H Q) : tM g ma σ H fun x H1 => r x H1 Q := by
  obtain ⟨F, s, res, s', I, e, k⟩ := h
  unfold mOp1 at e
  obtain ⟨p, e1, e⟩ := Option.bind_eq_some_iff.mp e
  obtain ⟨x, e2, e⟩ := Option.bind_eq_some_iff.mp e
  obtain ⟨z, e3, e⟩ := Option.map_eq_some_iff.mp e
  cases e
  refine tM_soft I e1 fun F1 v H1 I1 K1 w => ?_
  exact ok.ok F1 H1 v x res Q I1.sub (w.pk I1 e2) e3 (fin_of I1 K1 (ok.no _ _ e3) k)
theorem tOp2_of {f : D → D → Option Vr} {r : R2} (ok : Op2 g f r) {ma mb : M g.R.S Vr} {σ : St} {H : Hp} {Q : VK} (h : tM g (mOp2 f ma mb) σ H Q) : tOp r (tM g ma) (tM g mb) σ H Q := by
  obtain ⟨F, s, res, s', I, e, k⟩ := h
  unfold mOp2 at e
  obtain ⟨p, e1, e⟩ := Option.bind_eq_some_iff.mp e
  obtain ⟨q, e2, e⟩ := Option.bind_eq_some_iff.mp e
  obtain ⟨x, e3, e⟩ := Option.bind_eq_some_iff.mp e
  obtain ⟨y, e4, e⟩ := Option.bind_eq_some_iff.mp e
  obtain ⟨z, e5, e⟩ := Option.map_eq_some_iff.mp e
  cases e
  refine tM_soft I e1 fun F1 v H1 I1 K1 w1 => tM_soft I1 e2 fun F2 u H2 I2 K2 w2 => ?_
  exact ok.ok F2 H2 v u x y res Q I2.sub ((w1.keep K2.grow).pk I2 e3) (w2.pk I2 e4) e5 (fin_of I2 (K1.trans K2 I2) (ok.no _ _ _ e5) k)
theorem d_bin {op : Operator} {r : R2} {f : D → D → Option Vr} {a b : Expr} {ma mb : M g.R.S Vr} {pos : Pos} (ho : OpR X (binaryOp op) r) (ok : Op2 g f r) (ha : DE g X a ma) (hb : DE g X b mb) : DE g X (.BinOp a op b pos) (mOp2 f ma mb) :=
  PE.imp (pe_op ho ha hb) fun _ _ _ h => tOp2_of ok h
theorem d_un {op : UnaryOp} {r : V → Hp → VK → Prop} {f : D → Option Vr} {a : Expr} {ma : M g.R.S Vr} {pos : Pos} (ho : UnR X (unaryOp op) r) (ok : Op1 g f r) (ha : DE g X a ma) : DE g X (.UnaryOp op a pos) (mOp1 f ma) :=
  PE.imp (pe_un ho ha) fun _ _ _ h => tOp1_of ok h
theorem d_cmp {op : CmpOp} {r : R2} {f : D → D → Option Vr} {a b : Expr} {ma mb : M g.R.S Vr} {pos : Pos} (ho : OpR X (compareOp op) r) (ok : Op2 g f r) (ha : DE g X a ma) (hb : DE g X b mb) (hm : behindInMarks op b = false) : DE g X (.Compare a [op] [b] pos) (mOp2 f ma mb) :=
  PE.imp (pe_cmpR ho ha hb hm) fun _ _ _ h => tOp2_of ok h
theorem t_cmp {op : CmpOp} {r : R2} {f : D → D → Option Vr} {a b : Expr} {ma mb : M g.R.S Vr} {pos : Pos} (ho : OpR X (compareOp op) r) (ok : Op2 g f r) (ha : DE g X a ma) (hb : DE g X b mb) (hm : behindInMarks op b = false) : DT g X (.Compare a [op] [b] pos) (mOp2 f ma mb) :=
  PT.imp (pt_cmpR ho ha hb hm) fun _ _ _ h => tTest_of (fun _ _ _ h => tOp2_of ok h) h
/-- a value that is a bool, as a test -/
theorem t_val {e : Expr} {m : M g.R.S Vr} (h : DE g X e m) (he : ∀ whole, isTrue e X.env whole = (do let v ← whole; standAt e.pos; holding [v] (truthy v)) := by intro _; rfl) : DT g X e m :=
  PT.imp (pt_val h he) fun _ _ _ q => tTest_of (fun _ _ _ h => h) q
/-! a op1 b op2 c -/
def mChain {R : Type} (f f' : D → D → Option Vr) (ma mb mc : M R Vr) : M R Vr := fun s =>
  (ma s).bind fun p => (mb p.2).bind fun q => (pk (soft p.1) q.2).bind fun x => (pk (soft q.1) q.2).bind fun y => match f x y with
    | some (.sh (.bl true)) => (mc q.2).bind fun u => (pk (soft q.1) u.2).bind fun y' => (pk (soft u.1) u.2).bind fun z => (f' y' z).map fun w => (w, u.2)
    | some (.sh (.bl false)) => some (.sh (.bl false), q.2)
    | _ => none
theorem tChain_of {f f' : D → D → Option Vr} {r r' : R2} (ok : Op2 g f r) (ok' : Op2 g f' r') {ma mb mc : M g.R.S Vr} {σ : St} {H : Hp} {Q : VK} (h : tM g (mChain f f' ma mb mc) σ H Q) : tChain r r' (tM g ma) (tM g mb) (tM g mc) σ H Q := by
  obtain ⟨F, s, res, s', I, e, k⟩ := h
  unfold mChain at e
  obtain ⟨p, e1, e⟩ := Option.bind_eq_some_iff.mp e
  obtain ⟨q, e2, e⟩ := Option.bind_eq_some_iff.mp e
  obtain ⟨x, e3, e⟩ := Option.bind_eq_some_iff.mp e
  obtain ⟨y, e4, e⟩ := Option.bind_eq_some_iff.mp e
  refine tM_soft I e1 fun F1 v H1 I1 K1 w1 => tM_soft I1 e2 fun F2 u H2 I2 K2 w2 => ?_
  have K12 := K1.trans K2 I2
  cases e5 : f x y with
  | none => rw [e5] at e; cases e
  | some z =>
    rw [e5] at e
    cases z with
    | tmp _ => cases e
    | sl _ => cases e
    | sh d =>
      cases d with
      | bl b =>
        refine ok.ok F2 H2 v u x y (.sh (.bl b)) _ I2.sub ((w1.keep K2.grow).pk I2 e3) (w2.pk I2 e4) e5 (show Fin g F2 H2 (.sh (.bl b)) _ from fun F3 v3 H3 x3 r3 => ?_)
        have hb : v3 = .bl b := by
          cases r3 with
          | bl => rfl
          | ref _ z => cases z
        subst hb
        have I3 := I2.ext x3
        have K3 := K12.trans (Keep.ext x3) I3
        refine ⟨b, rfl, ?_⟩
        cases b with
        | false =>
          rw [if_neg Bool.false_ne_true]
          cases e
          exact k F3 _ H3 I3 K3 (.bl false)
        | true =>
          rw [if_pos rfl]
          obtain ⟨u', e6, e⟩ := Option.bind_eq_some_iff.mp e
          obtain ⟨y', e7, e⟩ := Option.bind_eq_some_iff.mp e
          obtain ⟨z', e8, e⟩ := Option.bind_eq_some_iff.mp e
          obtain ⟨w', e9, e⟩ := Option.map_eq_some_iff.mp e
          cases e
          refine tM_soft I3 e6 fun F4 v4 H4 I4 K4 w4 => ?_
          exact ok'.ok F4 H4 u v4 y' z' res Q I4.sub (((w2.keep x3.le).keep K4.grow).pk I4 e7) (w4.pk I4 e8) e9 (fin_of I4 (K3.trans K4 I4) (ok'.no _ _ _ e9) k)
      | _ => cases e
theorem d_chain {op op' : CmpOp} {r r' : R2} {f f' : D → D → Option Vr} {a b c : Expr} {ma mb mc : M g.R.S Vr} {pos : Pos} (ho : OpR X (compareOp op) r) (ok : Op2 g f r) (ho' : OpR X (compareOp op') r') (ok' : Op2 g f' r') (ha : DE g X a ma) (hb : DE g X b mb) (hc : DE g X c mc)
    (hm : lastMarks [op, op'] [b, c] = false := by with_unfolding_all rfl) : DE g X (.Compare a [op, op'] [b, c] pos) (mChain f f' ma mb mc) := PE.imp (pe_chain ho ho' ha hb hc hm) fun _ _ _ h => tChain_of ok ok' h
/-! ### and, or, not, if -/
def mAnd {R : Type} (ma mb : M R Vr) : M R Vr := fun s => (ma s).bind fun p => match p.1 with
  | .sh (.bl true) => mb p.2
  | .sh (.bl false) => some (.sh (.bl false), p.2)
  | _ => none
def mOr {R : Type} (ma mb : M R Vr) : M R Vr := fun s => (ma s).bind fun p => match p.1 with
  | .sh (.bl true) => some (.sh (.bl true), p.2)
  | .sh (.bl false) => mb p.2
  | _ => none
def mNot {R : Type} (ma : M R Vr) : M R Vr := fun s => (ma s).bind fun p => match p.1 with
  | .sh (.bl b) => some (.sh (.bl (!b)), p.2)
  | _ => none
def mIf {R : Type} (mc ma mb : M R Vr) : M R Vr := fun s => (mc s).bind fun p => match p.1 with
  | .sh (.bl true) => ma p.2
  | .sh (.bl false) => mb p.2
  | _ => none
/-- the first part of such a thing is a bool -/
theorem first_bl {α : Type} {F : Vr → S g.R.S → Option α} {ma : M g.R.S Vr} {s : S g.R.S} {x : α} (e : ((ma s).bind fun p => F p.1 p.2) = some x) (h : ∀ v s', F v s' = some x → ∃ b, v = .sh (.bl b)) : ∃ b s', ma s = some (.sh (.bl b), s') ∧ F (.sh (.bl b)) s' = some x := by
  obtain ⟨⟨v, s'⟩, e1, e2⟩ := Option.bind_eq_some_iff.mp e
  obtain ⟨b, rfl⟩ := h v s' e2
  exact ⟨b, s', e1, e2⟩
theorem mAnd_inv {ma mb : M g.R.S Vr} {s : S g.R.S} {x : Vr × S g.R.S} (e : mAnd ma mb s = some x) : ∃ b s', ma s = some (.sh (.bl b), s') ∧ (if b = true then mb s' = some x else (Vr.sh (.bl false), s') = x) := by
  obtain ⟨b, s', e1, e2⟩ := first_bl (F := fun v s' => match v with
    | .sh (.bl true) => mb s'
    | .sh (.bl false) => some (.sh (.bl false), s')
    | _ => none) (ma := ma) (s := s) e (fun v s' h => by
      cases v with
      | sh d => cases d with
        | bl b => exact ⟨b, rfl⟩
        | _ => cases h
      | _ => cases h)
  refine ⟨b, s', e1, ?_⟩
  cases b with
  | true => exact e2
  | false => exact Option.some.inj e2
theorem mOr_inv {ma mb : M g.R.S Vr} {s : S g.R.S} {x : Vr × S g.R.S} (e : mOr ma mb s = some x) : ∃ b s', ma s = some (.sh (.bl b), s') ∧ (if b = true then (Vr.sh (.bl true), s') = x else mb s' = some x) := by
  obtain ⟨b, s', e1, e2⟩ := first_bl (F := fun v s' => match v with
    | .sh (.bl true) => some (.sh (.bl true), s')
    | .sh (.bl false) => mb s'
    | _ => none) (ma := ma) (s := s) e (fun v s' h => by
      cases v with
      | sh d => cases d with
        | bl b => exact ⟨b, rfl⟩
        | _ => cases h
      | _ => cases h)
  refine ⟨b, s', e1, ?_⟩
  cases b with
  | true => exact Option.some.inj e2
  | false => exact e2
theorem mIf_inv {mc ma mb : M g.R.S Vr} {s : S g.R.S} {x : Vr × S g.R.S} (e : mIf mc ma mb s = some x) : ∃ b s', mc s = some (.sh (.bl b), s') ∧ (if b = true then ma s' = some x else mb s' = some x) := by
  obtain ⟨b, s', e1, e2⟩ := first_bl (F := fun v s' => match v with
    | .sh (.bl true) => ma s'
    | .sh (.bl false) => mb s'
    | _ => none) (ma := mc) (s := s) e (fun v s' h => by
      cases v with
      | sh d => cases d with
        | bl b => exact ⟨b, rfl⟩
        | _ => cases h
      | _ => cases h)
  refine ⟨b, s', e1, ?_⟩
  cases b with
  | true => exact e2
  | false => exact e2
theorem mNot_inv {ma : M g.R.S Vr} {s : S g.R.S} {x : Vr × S g.R.S} (e : mNot ma s = some x) : ∃ b s', ma s = some (.sh (.bl b), s') ∧ (Vr.sh (.bl (!b)), s') = x := by
  obtain ⟨b, s', e1, e2⟩ := first_bl (F := fun v s' => match v with
    | .sh (.bl b) => some (Vr.sh (.bl (!b)), s')
    | _ => none) (ma := ma) (s := s) (x := x) e (fun v s' h => by
      cases v with
      | sh d => cases d with
        | bl b => exact ⟨b, rfl⟩
        | _ => cases h
      | _ => cases h)
  exact ⟨b, s', e1, Option.some.inj e2⟩
theorem tM_bl {ma : M g.R.S Vr} {σ : St} {H : Hp} {Q : VK} {F : Hp} {s s' : S g.R.S} {b : Bool} (I : Sim g F s σ H) (e : ma s = some (.sh (.bl b), s')) (k : ∀ F' H', Sim g F' s' σ H' → Keep g F s σ H F' s' σ H' → Q (.bl b) H') : tM g ma σ H Q := by
  refine ⟨F, s, _, s', I, e, fun F' v H' I' K' r => ?_⟩
  have r : Rep g F' v (.bl b) := r
  cases r with
  | bl => exact k F' H' I' K'
  | ref _ z => cases z
theorem VOk.base {F F1 F' : Hp} {s s1 s' : S g.R.S} {σ σ1 : St} {H H1 H' : Hp} {res : Vr} {v : V} (K1 : Keep g F s σ1 H F1 s1 σ H1) (r : VOk g F' s' σ H1 H' res v) : VOk g F' s' σ H H' res v := by
  cases res with
  | tmp d =>
    obtain ⟨p, o, rfl, h0, h⟩ := r
    refine ⟨p, o, rfl, ?_, h⟩
    cases q : H p with
    | none => rfl
    | some u => obtain ⟨o', e⟩ := K1.there p u q; rw [h0] at e; cases e
  | sh d => exact r
  | sl i => exact r
theorem tM_tail {m : M g.R.S Vr} {F F1 : Hp} {s s1 s' : S g.R.S} {σ : St} {H H1 : Hp} {res : Vr} {Q : VK} (I1 : Sim g F1 s1 σ H1) (K1 : Keep g F s σ H F1 s1 σ H1) (e : m s1 = some (res, s'))
    (k : ∀ F' v H', Sim g F' s' σ H' → Keep g F s σ H F' s' σ H' → VOk g F' s' σ H H' res v → Q v H') : tM g m σ H1 Q :=
  ⟨F1, s1, res, s', I1, e, fun F' v H' I' K' r => k F' v H' I' (K1.trans K' I') (r.base K1)⟩
theorem d_one {op} {a : Expr} {ma : M g.R.S Vr} {pos : Pos} (h : DE g X a ma) : DE g X (.BoolOp op [a] pos) ma := pe_one h
theorem d_and {a b : Expr} {rest : List Expr} {ma mb : M g.R.S Vr} {pos : Pos} (ha : DE g X a ma) (hb : DE g X (.BoolOp .And (b :: rest) pos) mb) : DE g X (.BoolOp .And (a :: b :: rest) pos) (mAnd ma mb) := by
  refine PE.imp (pe_and ha hb) fun σ H Q ⟨F, s, res, s', I, e, k⟩ => ?_
  obtain ⟨c, s1, e1, e2⟩ := mAnd_inv e
  refine tM_bl I e1 fun F1 H1 I1 K1 => ⟨c, rfl, ?_⟩
  cases c with
  | true => exact tM_tail I1 K1 e2 k
  | false =>
    have e2 : (Vr.sh (.bl false), s1) = (res, s') := e2
    cases e2
    exact k F1 _ H1 I1 K1 (.bl false)
theorem d_or {a b : Expr} {rest : List Expr} {ma mb : M g.R.S Vr} {pos : Pos} (ha : DE g X a ma) (hb : DE g X (.BoolOp .Or (b :: rest) pos) mb) : DE g X (.BoolOp .Or (a :: b :: rest) pos) (mOr ma mb) := by
  refine PE.imp (pe_or ha hb) fun σ H Q ⟨F, s, res, s', I, e, k⟩ => ?_
  obtain ⟨c, s1, e1, e2⟩ := mOr_inv e
  refine tM_bl I e1 fun F1 H1 I1 K1 => ⟨c, rfl, ?_⟩
  cases c with
  | false => exact tM_tail I1 K1 e2 k
  | true =>
    have e2 : (Vr.sh (.bl true), s1) = (res, s') := e2
    cases e2
    exact k F1 _ H1 I1 K1 (.bl true)
theorem d_if {c a b : Expr} {mc ma mb : M g.R.S Vr} {pos : Pos} (hc : DT g X c mc) (ha : DE g X a ma) (hb : DE g X b mb) : DE g X (.IfExp c a b pos) (mIf mc ma mb) := by
  refine PE.imp (pe_ifExp hc ha hb) fun σ H Q ⟨F, s, res, s', I, e, k⟩ => ?_
  obtain ⟨c, s1, e1, e2⟩ := mIf_inv e
  refine ⟨F, s, c, s1, I, e1, fun F1 H1 I1 K1 => ?_⟩
  cases c with
  | true => exact tM_tail I1 K1 e2 k
  | false => exact tM_tail I1 K1 e2 k
/-! as tests -/
theorem w_one_and {a : Expr} {ma : M g.R.S Vr} {pos : Pos} (h : DT g X a ma) : DW g X (.BoolOp .And [a] pos) ma := pw_and1 h
theorem w_one_or {a : Expr} {ma : M g.R.S Vr} {pos : Pos} (h : DT g X a ma) : DW g X (.BoolOp .Or [a] pos) ma := pw_or1 h
theorem w_and {a b : Expr} {rest : List Expr} {ma mb : M g.R.S Vr} {pos : Pos} (ha : DT g X a ma) (hb : DW g X (.BoolOp .And (b :: rest) pos) mb) : DW g X (.BoolOp .And (a :: b :: rest) pos) (mAnd ma mb) := by
  refine PW.imp (pw_and ha hb) fun σ H Q ⟨F, s, b, s', I, e, k⟩ => ?_
  obtain ⟨c, s1, e1, e2⟩ := mAnd_inv e
  refine ⟨F, s, c, s1, I, e1, fun F1 H1 I1 K1 => ?_⟩
  cases c with
  | true => exact ⟨F1, s1, b, s', I1, e2, fun F' H' I' K' => k F' H' I' (K1.trans K' I')⟩
  | false =>
    have e2 : (Vr.sh (.bl false), s1) = (.sh (.bl b), s') := e2
    cases e2
    exact k F1 H1 I1 K1
theorem w_or {a b : Expr} {rest : List Expr} {ma mb : M g.R.S Vr} {pos : Pos} (ha : DT g X a ma) (hb : DW g X (.BoolOp .Or (b :: rest) pos) mb) : DW g X (.BoolOp .Or (a :: b :: rest) pos) (mOr ma mb) := by
  refine PW.imp (pw_or ha hb) fun σ H Q ⟨F, s, b, s', I, e, k⟩ => ?_
  obtain ⟨c, s1, e1, e2⟩ := mOr_inv e
  refine ⟨F, s, c, s1, I, e1, fun F1 H1 I1 K1 => ?_⟩
  cases c with
  | false => exact ⟨F1, s1, b, s', I1, e2, fun F' H' I' K' => k F' H' I' (K1.trans K' I')⟩
  | true =>
    have e2 : (Vr.sh (.bl true), s1) = (.sh (.bl b), s') := e2
    cases e2
    exact k F1 H1 I1 K1
theorem t_not {a : Expr} {ma : M g.R.S Vr} {pos : Pos} (ha : DT g X a ma) : DT g X (.UnaryOp .Not a pos) (mNot ma) := by
  refine PT.imp (pt_not ha) fun σ H Q ⟨F, s, b, s', I, e, k⟩ => ?_
  obtain ⟨c, s1, e1, e2⟩ := mNot_inv e
  cases e2
  exact ⟨F, s, c, _, I, e1, k⟩
end
end RW
namespace RW
open PySem L2
section
variable {g : G} {X : Cx}
/-! ### letting a thing go: what a slot owns is kept for good -/
def esc {R : Type} (r : Vr) : M R D := fun s => match r with
  | .sh d => some (d, s)
  | .tmp d => some (d, s)
  | .sl i => match s.e[i]? with
    | some (some c) => some (c.d, { s with e := s.e.set i (some ⟨c.d, false⟩) })
    | _ => none
theorem esc_ok {F : Hp} {s s' : S g.R.S} {σ : St} {H : Hp} {r : Vr} {v : V} {d : D} (I : Sim g F s σ H) (w : WOk g F σ r v) (e : esc r s = some (d, s')) : ∃ F', Sim g F' s' σ H ∧ Keep g F s σ H F' s' σ H ∧ Rep g F' v d := by
  cases r with
  | sh d' => cases e; exact ⟨F, I, Keep.refl, w⟩
  | tmp d' => exact w.elim
  | sl i =>
    have w : σ[i]? = some (some v) := w
    have e : (match s.e[i]? with | some (some c) => some (c.d, { s with e := s.e.set i (some ⟨c.d, false⟩) }) | _ => none) = some (d, s') := e
    split at e
    · rename_i c ec
      cases e
      obtain ⟨v', e1, q⟩ := I.cell i c ec
      rw [w] at e1; cases e1
      have hi : i < s.e.length := (List.getElem?_eq_some_iff.mp ec).1
      have at_i : (s.e.set i (some ⟨c.d, false⟩))[i]? = some (some ⟨c.d, false⟩) := List.getElem?_set_self hi
      have at_j : ∀ j, j ≠ i → (s.e.set i (some ⟨c.d, false⟩))[j]? = s.e[j]? := fun j h => List.getElem?_set_ne (Ne.symm h)
      have own' : ∀ a, Own σ (s.e.set i (some ⟨c.d, false⟩)) a → Own σ s.e a := fun a ⟨j, cj, h1, h2, h3⟩ => by
        by_cases hj : j = i
        · subst hj; rw [at_i] at h1; cases h1; cases h2
        · rw [at_j j hj] at h1; exact ⟨j, cj, h1, h2, h3⟩
      rcases q with ⟨ho, q⟩ | ⟨ho, p, o, rfl, b2, b3, b4, b5⟩
      · refine ⟨F, ⟨I.sub, I.at_, I.foot, by simpa using I.len, fun j cj ej => ?_, fun j k cj ck a hne ej ek oj ok hj => ?_⟩, ⟨fun _ _ h _ _ => h, Le.refl _, fun _ _ _ _ h _ => h, fun a h => .inl (own' a h), fun _ o h => ⟨o, h⟩⟩, q⟩
        · by_cases hj : j = i
          · subst hj; rw [at_i] at ej; cases ej; exact ⟨v, w, .inl ⟨rfl, q⟩⟩
          · rw [at_j j hj] at ej; exact I.cell j cj ej
        · have hj' : j ≠ i := fun z => by subst z; rw [at_i] at ej; cases ej; cases oj
          have hk' : k ≠ i := fun z => by subst z; rw [at_i] at ek; cases ek; cases ok
          rw [at_j j hj'] at ej; rw [at_j k hk'] at ek
          exact I.apart j k cj ck a hne ej ek oj ok hj
      · have le : Le F (upd F p o) := upd_le b2
        refine ⟨upd F p o, ⟨fun a u q => ?_, I.at_, fun a ha => ?_, by simpa using I.len, fun j cj ej => ?_, fun j k cj ck a hne ej ek oj ok hj => ?_⟩, ⟨fun _ _ h _ _ => h, le, fun a u q _ r n => ?_, fun a h => .inl (own' a h), fun _ o h => ⟨o, h⟩⟩, .ref upd_same (b5.mono le)⟩
        · by_cases z : a = p
          · subst z; rw [upd_same] at q; cases q; exact .inl b4
          · rw [upd_ne z] at q; exact I.sub a u q
        · rw [upd_ne (fun (z : a = p) => b3 (by rw [← z]; exact ha))]; exact I.foot a ha
        · by_cases hj : j = i
          · subst hj; rw [at_i] at ej; cases ej; exact ⟨_, w, .inl ⟨rfl, .ref upd_same (b5.mono le)⟩⟩
          · rw [at_j j hj] at ej
            obtain ⟨vj, f1, q⟩ := I.cell j cj ej
            refine ⟨vj, f1, ?_⟩
            rcases q with ⟨a, b⟩ | ⟨a, p', o', c1, c2, c3, c4, c5⟩
            · exact .inl ⟨a, b.mono le⟩
            · refine .inr ⟨a, p', o', c1, ?_, c3, c4, c5.mono le⟩
              rw [upd_ne (fun z => I.apart j i cj c p hj ej ec a ho (by rw [f1, c1, z]) w)]; exact c2
        · have hj' : j ≠ i := fun z => by subst z; rw [at_i] at ej; cases ej; cases oj
          have hk' : k ≠ i := fun z => by subst z; rw [at_i] at ek; cases ek; cases ok
          rw [at_j j hj'] at ej; rw [at_j k hk'] at ek
          exact I.apart j k cj ck a hne ej ek oj ok hj
        · rw [upd_ne (fun (z : a = p) => n ⟨i, c, ec, ho, by rw [w, z]⟩)]; exact r
    · cases e
def escAll {R : Type} : List Vr → M R (List D)
  | [] => fun s => some ([], s)
  | r :: rs => fun s => (esc r s).bind fun p => (escAll rs p.2).map fun q => (p.1 :: q.1, q.2)
def WAll (g : G) (F : Hp) (σ : St) : List Vr → List V → Prop
  | [], [] => True
  | r :: rs, v :: vs => WOk g F σ r v ∧ WAll g F σ rs vs
  | _, _ => False
theorem WAll.keep {F F1 : Hp} {σ : St} (le : Le F F1) : ∀ {rs : List Vr} {vs : List V}, WAll g F σ rs vs → WAll g F1 σ rs vs
  | [], [], _ => trivial
  | _ :: _, _ :: _, h => ⟨h.1.keep le, WAll.keep le h.2⟩
  | [], _ :: _, h => h.elim
  | _ :: _, [], h => h.elim
theorem WAll.length {F : Hp} {σ : St} : ∀ {rs : List Vr} {vs : List V}, WAll g F σ rs vs → rs.length = vs.length
  | [], [], _ => rfl
  | _ :: _, _ :: _, h => by simp [WAll.length h.2]
  | [], _ :: _, h => h.elim
  | _ :: _, [], h => h.elim
theorem RepAll.length {F : Hp} : ∀ {vs : List V} {ds : List D}, RepAll g F vs ds → vs.length = ds.length
  | _, _, .nil => rfl
  | _, _, .cons _ t => by simp [RepAll.length t]
theorem escAll_ok {σ : St} {H : Hp} : ∀ {rs : List Vr} {F : Hp} {s s' : S g.R.S} {vs : List V} {ds : List D}, Sim g F s σ H → WAll g F σ rs vs → escAll rs s = some (ds, s') → ∃ F', Sim g F' s' σ H ∧ Keep g F s σ H F' s' σ H ∧ RepAll g F' vs ds
  | [], F, s, s', [], ds, I, w, e => by cases e; exact ⟨F, I, Keep.refl, .nil⟩
  | [], _, _, _, _ :: _, _, _, w, _ => w.elim
  | _ :: _, _, _, _, [], _, _, w, _ => w.elim
  | r :: rs, F, s, s', v :: vs, ds, I, w, e => by
    unfold escAll at e
    obtain ⟨p, e1, e⟩ := Option.bind_eq_some_iff.mp e
    obtain ⟨q, e2, e⟩ := Option.map_eq_some_iff.mp e
    cases e
    obtain ⟨F1, I1, K1, r1⟩ := esc_ok I w.1 e1
    obtain ⟨F2, I2, K2, r2⟩ := escAll_ok I1 (w.2.keep K1.grow) e2
    exact ⟨F2, I2, K1.trans K2 I2, .cons (r1.mono K2.grow) r2⟩
/-! ### argument lists -/
def mArgs {R : Type} : List (M R Vr) → M R (List Vr)
  | [] => fun s => some ([], s)
  | m :: ms => fun s => (m s).bind fun p => (mArgs ms p.2).map fun q => (soft p.1 :: q.1, q.2)
def tMV (g : G) (n : Nat) (m : M g.R.S (List Vr)) : TA := fun σ H Q => ∃ F s rs s', Sim g F s σ H ∧ m s = some (rs, s') ∧
  ∀ F' vs H', Sim g F' s' σ H' → Keep g F s σ H F' s' σ H' → WAll g F' σ rs vs → vs.length = n → Q vs H'
def DA (g : G) (X : Cx) (n : Nat) (es : List Expr) (m : M g.R.S (List Vr)) : Prop := PA X es (tMV g n m)
theorem PA.imp {X : Cx} {e : List Expr} {t t' : TA} (h : PA X e t) (w : ∀ σ H Q, t' σ H Q → t σ H Q) : PA X e t' := ⟨fun pos pins s σ H Q I q => h.run pos pins s σ H Q I (w _ _ _ q)⟩
theorem a_nil : DA g X 0 [] (mArgs []) := PA.imp pa_nil fun σ H Q ⟨F, s, rs, s', I, e, k⟩ => by
  cases e
  exact k F [] H I Keep.refl trivial rfl
theorem a_cons {e : Expr} {es : List Expr} {n : Nat} {m : M g.R.S Vr} {ms : List (M g.R.S Vr)} (ha : DE g X e m) (hr : DA g X n es (mArgs ms)) (hs : starEach (e :: es) X.env = (false, eval e X.env) :: starEach es X.env := by rfl) : DA g X (n + 1) (e :: es) (mArgs (m :: ms)) := by
  refine PA.imp (pa_cons ha hr hs) fun σ H Q ⟨F, s, rs, s', I, e, k⟩ => ?_
  unfold mArgs at e
  obtain ⟨p, e1, e⟩ := Option.bind_eq_some_iff.mp e
  obtain ⟨q, e2, e⟩ := Option.map_eq_some_iff.mp e
  cases e
  refine tM_soft I e1 fun F1 v H1 I1 K1 w1 => ?_
  refine ⟨F1, _, q.1, q.2, I1, e2, fun F2 vs H2 I2 K2 w2 hl => ?_⟩
  exact k F2 (v :: vs) H2 I2 (K1.trans K2 I2) ⟨w1.keep K2.grow, w2⟩ (by simp [hl])
/-! ### displays -/
def mTup {R : Type} (ma : M R (List Vr)) : M R Vr := fun s => (ma s).bind fun p => (escAll p.1 p.2).map fun q => (.sh (.tup q.1), q.2)
def mLst {R : Type} (ma : M R (List Vr)) : M R Vr := fun s => (ma s).bind fun p => (escAll p.1 p.2).map fun q => (.tmp (.lst q.1), q.2)
theorem d_tup {es : List Expr} {n : Nat} {x1} {pos : Pos} {ma : M g.R.S (List Vr)} (h : DA g X n es ma) (hn : n ≤ sizeLine := by decide) : DE g X (.Tuple es x1 pos) (mTup ma) := by
  refine PE.imp (pe_tup h) fun σ H Q ⟨F, s, res, s', I, e, k⟩ => ?_
  unfold mTup at e
  obtain ⟨p, e1, e⟩ := Option.bind_eq_some_iff.mp e
  obtain ⟨q, e2, e⟩ := Option.map_eq_some_iff.mp e
  cases e
  refine ⟨F, s, p.1, p.2, I, e1, fun F1 vs H1 I1 K1 w1 hl => ⟨by rw [hl]; exact hn, fun a ha => ?_⟩⟩
  obtain ⟨F2, I2, K2, r2⟩ := escAll_ok I1 w1 e2
  have x : Ext F2 H1 (upd F2 a (.tup vs)) (upd H1 a (.tup vs)) := Ext.new I2.sub ha
  exact k _ _ _ (I2.ext x) ((K1.trans K2 I2).trans (Keep.ext x) (I2.ext x)) (.tup upd_same (r2.mono x.le))
theorem tmp_ok {F : Hp} {s : S g.R.S} {σ : St} {H : Hp} {F0 : Hp} {s0 : S g.R.S} {σ0 : St} {H0 : Hp} {p : Addr} {o : HO} {d : D} (I : Sim g F s σ H) (K : Keep g F0 s0 σ0 H0 F s σ H) (hp : H p = none) (r : RepO g F o d) : VOk g F s σ H0 (upd H p o) (.tmp d) (.ref p) := by
  refine ⟨p, o, rfl, ?_, I.sub.free hp, I.nofoot hp, fun z => ?_, upd_same, r⟩
  · cases q : H0 p with
    | none => rfl
    | some u => obtain ⟨o', e⟩ := K.there p u q; rw [hp] at e; cases e
  · obtain ⟨o, e, _⟩ := (I.own_at z).2.2
    rw [hp] at e; cases e
theorem d_lst {es : List Expr} {n : Nat} {pos : Pos} {ma : M g.R.S (List Vr)} (h : DA g X n es ma) (hn : n ≤ sizeLine := by decide) : DE g X (.List es pos) (mLst ma) := by
  refine PE.imp (pe_lst h) fun σ H Q ⟨F, s, res, s', I, e, k⟩ => ?_
  unfold mLst at e
  obtain ⟨p, e1, e⟩ := Option.bind_eq_some_iff.mp e
  obtain ⟨q, e2, e⟩ := Option.map_eq_some_iff.mp e
  cases e
  refine ⟨F, s, p.1, p.2, I, e1, fun F1 vs H1 I1 K1 w1 hl => ⟨by rw [hl]; exact hn, fun a ha => ?_⟩⟩
  obtain ⟨F2, I2, K2, r2⟩ := escAll_ok I1 w1 e2
  have x : Ext F2 H1 F2 (upd H1 a (.lst vs)) := Ext.tmp I2.sub ha
  exact k _ _ _ (I2.ext x) ((K1.trans K2 I2).trans (Keep.ext x) (I2.ext x)) (tmp_ok I2 (K1.trans K2 I2) ha (.lst r2))
def mDct0 {R : Type} (t : Bool) : M R Vr := fun s => some (.tmp (.dct t []), s)
theorem d_dct0 {pos : Pos} : DE g X (.Dict [] [] pos) (mDct0 false) := by
  refine PE.imp pe_dnewK fun σ H Q ⟨F, s, res, s', I, e, k⟩ a ha => ?_
  cases e
  have x : Ext F H F (upd H a (.dK [])) := Ext.tmp I.sub ha
  exact k _ _ _ (I.ext x) (Keep.ext x) (tmp_ok I Keep.refl ha (.dK .nil))
end
end RW
namespace RW
open PySem L2 PyProof.Rows
/-! ### what a def promises where nothing is being shown: (A.guards = some []), so that repr can be walked in its body -/
structure FnG (P : Program) (w : World) (K : PySem.W.Frag) (mg : Str → Option Value)
    (base : Heap) (k : Nat) (f : Addr) (fd : FuncData) (ps : List Str) (sp : Sp) : Prop where
  len : ∀ vs H Q E, sp vs H Q E → vs.length = ps.length
  go : ∀ {A : Around} {outer : List Env} {s : Shared} {H : Hp} {args : Args} {us : List Value} {vs : List V} {Q : VK},
    Room k A → A.guards = some [] → Env0 P w K mg base A outer s H →
    BindsTo s fd args (ps.zip us) → Vals vs us → sp vs H Q E0 →
    codeAny (model P w) A (.call (.ref f) args) (CR CX0 outer P w H s Q E0) s
section
variable {P : Program} {w : World} {K : PySem.W.Frag} {mg : Str → Option Value} {base : Heap} {j k : Nat} {f : Addr} {fd : FuncData} {ps : List Str} {sp : Sp}
theorem FnG.of (F : FnOk P w K mg base CX0 k f fd ps sp) : FnG P w K mg base k f fd ps sp :=
  ⟨F.len, fun hr _ e0 hb hv hs => F.run _ _ _ _ _ _ _ _ _ hr e0 hb hv hs⟩
theorem FnG.mono (F : FnG P w K mg base j f fd ps sp) (h : j ≤ k) : FnG P w K mg base k f fd ps sp :=
  ⟨F.len, fun hr => F.go (hr.mono h)⟩
theorem deeper_guards {A : Around} {env : Env} (h : A.guards = some []) : (A.deeper env).guards = some [] := h
theorem in1_guards {A : Around} (h : A.guards = some []) : A.in1.guards = some [] := h
theorem make_guards {A : Around} {C : Addr} {us : List Value} {kw : List (Str × Value)} (h : A.guards = some []) : (A.under (.builtin "type.__call__" ⟨.ref C :: us, kw⟩)).guards = some [] := by
  first
    | exact h
    | (simp [Around.under, Code.guards, Code.isGuard, guardIds, pushGuards]; exact h)
/-- a def, by its body -/
theorem FunD.okG {x qual : Str} {params : Arguments} {body : List Stmt} {scope : Scope} {dvs : List V} {kws : List (Str × V)} {N : List Str}
    (F : FunD K x qual params body scope dvs kws f fd) (S : FnScope N ps scope) (len : ∀ vs H Q E, sp vs H Q E → vs.length = ps.length)
    (hbody : ∀ (cdv : Value) (A : Around) (outer : List Env) (s : Shared) (H : Hp) (vs : List V) (Q : VK),
      Room k (A.deeper (envOfC qual scope s.heap.objs.size f cdv)) → A.guards = some [] → sp vs H Q E0 →
      ∃ t, PSs (cxOf CX0 P w K mg base N qual scope f cdv A outer s H E0) body t ∧ t { nx := fun _ H' => Q .non H', rt := Q } (L2.start N vs) H) :
    FnG P w K mg base (k + 1) f fd ps sp := by
  obtain ⟨oc, od, dV, kV, doc, pm, an, cdv, ct, osl, rfl, lk, hcd, _, _⟩ := F.ex
  constructor
  · exact len
  intro A outer s H args us vs Q hr hg e0 hb rv hsp
  have keep : ∀ b o, base.get? b = some o → s.heap.get? b = some o := fun b o e => (e0.bs b o e).1
  have inK := e0.mod.kin.keeps keep
  have nol := e0.mod.nolimit.keeps keep
  refine codeAny_call_function hr.depth (inK _ _ lk) rfl S.co S.gen rfl (PySem.W.codeRec_of inK hcd) (hb _ _ _ _ ?_)
  refine wpAny_newFunctionEnv_cells S.kind ?_ ?_
  · intro ⟨n, v⟩ hy
    rcases S.par n (List.of_mem_zip hy).1 with z | z
    · left; exact z
    · right; exact ⟨z, PySem.W.cellsFrom_some _ _ _ (.inl z)⟩
  intro env he s1 ic
  subst he
  refine ⟨nol.keeps ic.toInCall.keep, codeAny_func ?_⟩
  obtain ⟨t, ht, hq⟩ := hbody cdv A outer s H vs Q (hr.deeper _) hg hsp
  have J := inv_start (CX := CX0) (E := E0) (f := f) (cd := cdv) (qual := qual) S hr.hd e0 (len _ _ _ _ hsp) rv ic
  refine wpAny_mono (ht.run [] s1 (L2.start N vs) H _ J hq) ?_ (fun _ _ z => z)
  intro fl s' hs
  cases fl with
  | next =>
    obtain ⟨σ', H', J', q⟩ := hs
    exact ⟨V.non, H', J'.os, J'.bare, J'.base, J'.hok, rfl, q⟩
  | ret u =>
    obtain ⟨v, σ', H', J', r', q⟩ := hs
    exact ⟨v, H', J'.os, J'.bare, J'.base, J'.hok, r', q⟩
  | brk => exact hs.elim fun _ z => z.elim fun _ z => z.2.elim
  | cont => exact hs.elim fun _ z => z.elim fun _ z => z.2.elim
end
section
variable {X : Cx} {k : Nat} {f C : Addr} {fd : FuncData} {ps : List Str} {sp : Sp} {x m : Str} {p pos apos : Pos} {e o : Expr} {es : List Expr} {ta : TE} {t : TA}
/-- the callee runs, called with any arguments that bind -/
theorem FnG.go1 {pins : List (Addr × Obj)} {σ : L2.St} {H : Hp} {s : Shared} {Q : VK} {us ws : List Value} {kw : List (Str × Value)} {vs : List V}
    (F : FnG X.prog X.w X.K X.mg X.base k f fd ps sp) (hr : Room k X.A) (hg : X.A.guards = some []) (I : Inv X pins σ H s)
    (hb : BindsTo s fd ⟨ws, kw⟩ (ps.zip us)) (r : Vals vs us) (h : sp vs H Q E0) : wpAny (model X.prog X.w) X.A (call (.ref f) ws kw) (EP X pins σ Q) X.xe s := by
  refine wpAny_call (codeAny_mono (F.go hr hg I.env0 hb r h) ?_)
  intro r s' hq
  match r, hq with
  | .ok (.ret u), hq => exact I.after hq
theorem FnG.goB {pins : List (Addr × Obj)} {σ : L2.St} {H : Hp} {s : Shared} {Q : VK} {us : List Value} {vs : List V}
    (F : FnG X.prog X.w X.K X.mg X.base k f fd ps sp) (hr : Room k X.A) (hg : X.A.guards = some []) (hb : Binds X.K fd ps []) (I : Inv X pins σ H s)
    (r : Vals vs us) (h : sp vs H Q E0) : wpAny (model X.prog X.w) X.A (call (.ref f) us) (EP X pins σ Q) X.xe s := by
  have hl : (us ++ []).length = ps.length := by rw [List.append_nil, ← r.length]; exact F.len _ _ _ _ h
  have b := hb s us I.kIn hl
  rw [List.append_nil] at b
  exact F.go1 hr hg I b r h
theorem pg_call (F : FnG X.prog X.w X.K X.mg X.base k f fd ps sp) (hr : Room k X.A) (gd : X.A.guards = some []) (hg : Gl X x) (hm : X.mg x = some (.ref f))
    (hk : PySem.W.keepIn X.K (.ref f) = true) (hb : Binds X.K fd ps []) (ha : PA X (e :: es) t) (hdb : (x == ("__debug__" : Str)) = false)
    (he : starEach (e :: es) X.env = (false, eval e X.env) :: starEach es X.env) (hpl : (backTo pos (starEach es X.env)).any (·.1) = false) :
    PE X (.Call (.Name x p) (e :: es) [] pos) (fun σ H Q => t σ H fun vs H1 => sp vs H1 Q E0) := by
  constructor
  intro pins s σ H Q I h
  refine wpAny_Call_Name_kw (ld_glob I hg hm ?_ hdb)
  refine PySem.W.callWith_K (h₀ := X.base) I.ok.mod.kin hk (thn (ha.run pos pins s σ H _ I h) ?_) he hpl
  intro us s1 ⟨vs, H1, I1, r, q⟩
  exact ⟨I1.kIn, F.goB hr gd hb I1 r q⟩
theorem pg_meth {pl : Sem Bool} (he : PE X o ta) (c : Cls X.K C) (hm : Meth X.K C m f) (F : FnG X.prog X.w X.K X.mg X.base k f fd ps sp) (hr : Room k X.A) (gd : X.A.guards = some [])
    (hb : Binds X.K fd ps []) (ha : PA X (e :: es) t) (hst : starEach (e :: es) X.env = (false, eval e X.env) :: starEach es X.env) (hpl : (backTo pos (starEach es X.env)).any (·.1) = false)
    (ht : eval (.Call (.Attribute o m apos) (e :: es) [] pos) X.env = (eval o X.env >>= fun ov => standAt apos.atName >>= fun _ => holding [ov] (getMethod ov m pl) >>= fun x => callWith pos x.1 x.2 (backTo pos (starEach (e :: es) X.env)) (backToKw pos (keywordEach [] X.env)))) :
    PE X (.Call (.Attribute o m apos) (e :: es) [] pos) (tMeth C m sp [] E0 ta t) := by
  constructor
  intro pins s σ H Q I h
  refine PySem.W.methodCall_KW (pl := pl) (thn (he.run pins s σ H _ I h) ?_) ht
  rintro u s1 ⟨x, H1, I1, rx, a, dx, fs, rfl, ea, l, q⟩
  obtain rfl : u = Value.ref a := rx
  refine getmeth_ok I1 ea c hm l (PySem.W.callWith_K (first := [.ref a]) (h₀ := X.base) I.ok.mod.kin hm.kp (thn (ha.run pos pins s1 σ H1 _ I1 q) ?_) hst hpl)
  intro us s2 ⟨vs, H2, I2, r, q2⟩
  have q2 : sp (V.ref a :: vs) H2 Q E0 := by have z : sp (V.ref a :: (vs ++ [])) H2 Q E0 := q2; rwa [List.append_nil] at z
  exact ⟨I2.kIn, F.goB (us := .ref a :: us) (vs := .ref a :: vs) hr gd hb I2 (.cons rfl r) q2⟩
theorem pg_make (M : Mk X.K C f) (F : FnG X.prog X.w X.K X.mg X.base k f fd ps sp) (hr : Room (k + 1) X.A) (gd : X.A.guards = some []) (hg : Gl X x) (hm : X.mg x = some (.ref C))
    {ds : List Value} {dvs : List V} (hb : Binds X.K fd ps ds) (hd : Vals dvs ds)
    (ha : PA X (e :: es) t) (hdb : (x == ("__debug__" : Str)) = false) (he : starEach (e :: es) X.env = (false, eval e X.env) :: starEach es X.env) (hpl : (backTo pos (starEach es X.env)).any (·.1) = false) :
    PE X (.Call (.Name x p) (e :: es) [] pos) (tMake C sp dvs E0 t) := by
  constructor
  intro pins s σ H Q I h
  refine wpAny_Call_Name_kw (ld_glob I hg hm ?_ hdb)
  refine PySem.W.callWith_K (h₀ := X.base) I.ok.mod.kin M.kp (thn (ha.run pos pins s σ H _ I h) ?_) he hpl
  intro us s1 ⟨vs, H1, I1, r, q⟩
  refine ⟨I1.kIn, ?_⟩
  have q0 := q (s1.heap.objs.size + 1) s1.heap.objs.size (I1.hok.fresh (Nat.le_succ _)) (I1.hok.fresh (Nat.le_refl _)) (Nat.ne_of_lt (Nat.lt_succ_self _))
  have I2 := Inv.made (C := C) I1
  have r2 : Vals (V.ref (s1.heap.objs.size + 1) :: (vs ++ dvs)) (Value.ref (s1.heap.objs.size + 1) :: (us ++ ds)) := .cons rfl (r.append hd)
  have hl : (Value.ref (s1.heap.objs.size + 1) :: us ++ ds).length = ps.length := (r2.length.symm.trans (F.len _ _ _ _ q0))
  refine wpAny_call (make_map (f := f) I1.kIn M.makes M.init (beq_iff_eq.mp M.fn) ?_)
  have b := hb _ (Value.ref (s1.heap.objs.size + 1) :: us) I2.kIn hl
  refine codeAny_mono (F.go (hr.make C us []) (make_guards gd) (I2.env0.make C us []) b r2 q0) ?_
  intro res s' hq
  match res, hq with
  | .ok (.ret u), hq =>
    obtain ⟨v, H', I3, rv, ev, q3⟩ := I2.after hq
    cases ev
    exact ⟨rv, V.ref (s1.heap.objs.size + 1), H', I3, rfl, q3⟩
theorem pg_prop {pr : Addr} (he : PE X e ta) (c : Cls X.K C) (hp : PropOf X.K C m pr f) (F : FnG X.prog X.w X.K X.mg X.base k f fd ps sp) (hr : Room (k + 1) X.A) (gd : X.A.guards = some [])
    (hb : Binds X.K fd ps []) (hab : attributeBase e m X.env (eval e X.env) = eval e X.env) : PE X (.Attribute e m pos) (tProp C sp [] E0 ta) := by
  constructor
  intro pins s σ H Q I h
  refine attr_of hab (thn (he.run pins s σ H _ I h) ?_)
  rintro u s1 ⟨x, H1, I1, rx, a, dx, fs, rfl, ea, q⟩
  obtain rfl : u = Value.ref a := rx
  obtain ⟨mA, O, _⟩ := ins_get I1.hok ea
  obtain ⟨od, J, _⟩ := O.look
  obtain ⟨rest, hrec⟩ := hp.rec_
  have I2 := I1.tok (s1.toks + 1)
  have hc : (PySem.W.clsIn X.K C).isSome = true := by
    obtain ⟨cd, z, _⟩ := PySem.W.any_some c.hd
    simp [z]
  refine PySem.W.get_bind I1.kIn J (PySem.W.plainGet_of (c.get m)).1 (PySem.W.findObj_data hc hp.at_ hp.get hp.tak) (PySem.W.plainGet_of (c.get m)).2 ?_
  refine wpAny_call (PySem.W.prop_get (s := { s1 with toks := s1.toks + 1 }) I1.kIn hrec ?_)
  have hl : ([Value.ref a] ++ []).length = ps.length := (F.len _ _ _ _ q)
  have b := hb { s1 with toks := s1.toks + 1 } [.ref a] I2.kIn hl
  refine codeAny_mono (F.go (vs := [.ref a]) hr.in1 (in1_guards gd) I2.env0.in1 b (.cons rfl .nil) q) ?_
  intro res s' hq
  match res, hq with
  | .ok (.ret u), hq =>
    obtain ⟨v, H', I3, rv, q3⟩ := I2.after hq
    show wpAny _ _ (handedOut u) _ _ _
    rw [PySem.W.handedOut_of (handed_of rv)]
    exact wpAny_pure ⟨v, H', I3, rv, q3⟩
end
end RW
namespace RW
open PySem L2
section
variable {g : G} {X : Cx}
/-! ### what a def promises -/
abbrev Fm (R : Type) := List D → R → Option (Vr × R)
def ROk (g : G) (F H0 H : Hp) : Vr → V → Prop
  | .sh d, v => Rep g F v d
  | .tmp d, v => ∃ p o, v = .ref p ∧ H0 p = none ∧ F p = none ∧ ¬ g.R.foot p ∧ H p = some o ∧ RepO g F o d
  | .sl _, _ => False
/-- what a call leaves -/
structure Left (g : G) (F H F' H' : Hp) (r' : g.R.S) : Prop where
  sub : Sub F' H'
  at_ : g.R.At r' H'
  foot : ∀ a, g.R.foot a → F' a = none
  le : Le F F'
  heap : ∀ a o, H a = some o → ¬ g.R.foot a → H' a = some o
  nof : ∀ a o, H a = some o → NT o → F a = none → F' a = none
  there : ∀ a o, H a = some o → ∃ o', H' a = some o'
def spM (g : G) (n : Nat) (mf : Fm g.R.S) : Sp := fun vs H Q _ => ∃ F r ds res r', Sub F H ∧ g.R.At r H ∧ (∀ a, g.R.foot a → F a = none) ∧ RepAll g F vs ds ∧ ds.length = n ∧ mf ds r = some (res, r') ∧
  ∀ F' v H', Left g F H F' H' r' → ROk g F' H H' res v → Q v H'
def isAtom : Vr → Bool
  | .sh .non => true
  | .sh (.bl _) => true
  | .sh (.int _) => true
  | .sh (.str _) => true
  | _ => false
def mCall {R : Type} (mf : Fm R) (ma : M R (List Vr)) : M R Vr := fun s => (ma s).bind fun p => (escAll p.1 p.2).bind fun z => (mf z.1 z.2.r).bind fun q =>
  match q.1 with
  | .sl _ => none
  | x => some (x, if isAtom x then { p.2 with r := q.2 } else { z.2 with r := q.2 })
theorem atom_any {F F' : Hp} {v : V} {d : D} (h : isAtom (.sh d) = true) (r : Rep g F v d) : Rep g F' v d := by
  cases r with
  | non => exact .non
  | bl => exact .bl _
  | int => exact .int _
  | str => exact .str _
  | ref _ z => cases z <;> cases h
  | tup _ _ => cases h
  | kt _ _ _ => cases h
  | res => cases h
  | kscr _ => cases h
/-- the state behind a call, all that the caller knew kept -/
theorem Sim.left {F F' : Hp} {s : S g.R.S} {σ : St} {H H' : Hp} {r' : g.R.S} (I : Sim g F s σ H) (l : Left g F H F' H' r') : Sim g F' { s with r := r' } σ H' ∧ Keep g F s σ H F' { s with r := r' } σ H' := by
  refine ⟨⟨l.sub, l.at_, l.foot, I.len, fun i c e => ?_, I.apart⟩, ⟨fun a o h _ nf => l.heap a o h nf, l.le, fun a o h nt q _ => l.nof a o h nt q, fun a h => .inl h, l.there⟩⟩
  obtain ⟨v, e1, q⟩ := I.cell i c e
  refine ⟨v, e1, ?_⟩
  rcases q with ⟨a, b⟩ | ⟨a, p, o, b1, b2, b3, b4, b5⟩
  · exact .inl ⟨a, b.mono l.le⟩
  · exact .inr ⟨a, p, o, b1, l.nof _ _ b4 b5.nt b2, b3, l.heap _ _ b4 b3, b5.mono l.le⟩
/-- .. what the callee added is forgotten -/
theorem Sim.left0 {F F1 F' : Hp} {s : S g.R.S} {σ : St} {H H' : Hp} {r' : g.R.S} (I : Sim g F s σ H) (l : Left g F1 H F' H' r') : Sim g F { s with r := r' } σ H' ∧ Keep g F s σ H F { s with r := r' } σ H' := by
  refine ⟨⟨fun a o e => ?_, l.at_, I.foot, I.len, fun i c e => ?_, I.apart⟩, ⟨fun a o h _ nf => l.heap a o h nf, Le.refl _, fun a o h _ q _ => q, fun a h => .inl h, l.there⟩⟩
  · have nf : ¬ g.R.foot a := fun z => by rw [I.foot a z] at e; cases e
    rcases I.sub a o e with q | ⟨q, ob, q2⟩
    · exact .inl (l.heap a o q nf)
    · exact .inr ⟨q, ob, l.heap a _ q2 nf⟩
  · obtain ⟨v, e1, q⟩ := I.cell i c e
    refine ⟨v, e1, ?_⟩
    rcases q with ⟨a, b⟩ | ⟨a, p, o, b1, b2, b3, b4, b5⟩
    · exact .inl ⟨a, b⟩
    · exact .inr ⟨a, p, o, b1, b2, b3, l.heap _ _ b4 b3, b5⟩
theorem tCall_of {n : Nat} {mf : Fm g.R.S} {ma : M g.R.S (List Vr)} {σ : St} {H : Hp} {Q : VK} {E : XK} (h : tM g (mCall mf ma) σ H Q) : tMV g n ma σ H fun vs H1 => spM g n mf vs H1 Q E := by
  obtain ⟨F, s, res, s', I, e, k⟩ := h
  unfold mCall at e
  obtain ⟨p, e1, e⟩ := Option.bind_eq_some_iff.mp e
  obtain ⟨z, e2, e⟩ := Option.bind_eq_some_iff.mp e
  obtain ⟨q, e3, e⟩ := Option.bind_eq_some_iff.mp e
  refine ⟨F, s, p.1, p.2, I, e1, fun F1 vs H1 I1 K1 w1 hl => ?_⟩
  obtain ⟨F2, I2, K2, r2⟩ := escAll_ok I1 w1 e2
  refine ⟨F2, z.2.r, z.1, q.1, q.2, I2.sub, I2.at_, I2.foot, r2, by rw [← r2.length, hl], e3, fun F' v H' l r => ?_⟩
  have hres : q.1 = res ∧ s' = (if isAtom res then { p.2 with r := q.2 } else { z.2 with r := q.2 }) := by
    revert e
    cases q.1 with
    | sl i => intro e; cases e
    | sh d => intro e; cases e; exact ⟨rfl, rfl⟩
    | tmp d => intro e; cases e; exact ⟨rfl, rfl⟩
  obtain ⟨hq, hs⟩ := hres
  rw [hq] at r
  cases ha : isAtom res with
  | true =>
    rw [ha, if_pos rfl] at hs
    subst hs
    obtain ⟨I3, K3⟩ := I1.left0 l
    refine k F1 v H' I3 (K1.trans K3 I3) ?_
    cases res with
    | sh d => exact atom_any ha r
    | tmp d => cases ha
    | sl i => cases ha
  | false =>
    rw [ha, if_neg Bool.false_ne_true] at hs
    subst hs
    obtain ⟨I3, K3⟩ := I2.left l
    have K13 := (K1.trans K2 I2).trans K3 I3
    refine k F' v H' I3 K13 ?_
    cases res with
    | sh d => exact r
    | tmp d =>
      obtain ⟨a, o, rfl, h0, h1, h2, h3, h4⟩ := r
      refine ⟨a, o, rfl, ?_, h1, h2, fun y => ?_, h3, h4⟩
      · cases u : H a with
        | none => rfl
        | some w => obtain ⟨o', e'⟩ := K1.there a w u; rw [h0] at e'; cases e'
      · obtain ⟨o', e', _⟩ := (I2.own_at (s := z.2) y).2.2
        rw [h0] at e'; cases e'
    | sl i => exact r.elim
theorem d_call {k : Nat} {f : Addr} {fd : FuncData} {ps : List Str} {n : Nat} {mf : Fm g.R.S} {x : Str} {p pos : Pos} {e : Expr} {es : List Expr} {ma : M g.R.S (List Vr)} (F : FnG X.prog X.w X.K X.mg X.base k f fd ps (spM g n mf)) (hr : Room k X.A) (gd : X.A.guards = some []) (hg : Gl X x) (hm : X.mg x = some (.ref f)) (hk : PySem.W.keepIn X.K (.ref f) = true) (hb : Binds X.K fd ps [])
    (ha : DA g X n (e :: es) ma) (hdb : (x == ("__debug__" : Str)) = false := by decide) (he : starEach (e :: es) X.env = (false, eval e X.env) :: starEach es X.env := by rfl) (hpl : (backTo pos (starEach es X.env)).any (·.1) = false := by rfl) :
    DE g X (.Call (.Name x p) (e :: es) [] pos) (mCall mf ma) := by
  refine PE.imp (pg_call F hr gd hg hm hk hb ha hdb he hpl) fun σ H Q h => ?_
  obtain ⟨F, s, rs, s', I, e, k⟩ := tCall_of (n := n) (E := E0) h
  exact ⟨F, s, rs, s', I, e, fun F' vs H' a b c d => k F' vs H' a b c d⟩
/-! ### statements -/
inductive Fl where
  | nx | bk | ct | rt (v : Vr)
abbrev MS (R : Type) := M R Fl
/-- what is handed back: kept data, or a thing of one's own (new, or a slot's) -/
def XOk (g : G) (F : Hp) (σ0 : St) (e0 : List (Option Cell)) (H0 H : Hp) : Vr → V → Prop
  | .sh d, v => Rep g F v d
  | .tmp d, v => ∃ p o, v = .ref p ∧ (Own σ0 e0 p ∨ H0 p = none) ∧ F p = none ∧ ¬ g.R.foot p ∧ H p = some o ∧ RepO g F o d
  | .sl _, _ => False
theorem XOk.base {F F1 F' : Hp} {s s1 : S g.R.S} {σ σ1 : St} {H H1 H' : Hp} {res : Vr} {v : V} (K : Keep g F s σ H F1 s1 σ1 H1) (r : XOk g F' σ1 s1.e H1 H' res v) : XOk g F' σ s.e H H' res v := by
  cases res with
  | sh d => exact r
  | sl i => exact r
  | tmp d =>
    obtain ⟨p, o, rfl, h0, h⟩ := r
    refine ⟨p, o, rfl, ?_, h⟩
    rcases h0 with h0 | h0
    · exact K.own p h0
    · right
      cases q : H p with
      | none => rfl
      | some u => obtain ⟨o', e⟩ := K.there p u q; rw [h0] at e; cases e
def Out (g : G) (E : Ends) (F : Hp) (s : S g.R.S) (σ : St) (H : Hp) (s' : S g.R.S) : Fl → Prop
  | .nx => ∀ F' σ' H', Sim g F' s' σ' H' → Keep g F s σ H F' s' σ' H' → E.nx σ' H'
  | .bk => ∀ F' σ' H', Sim g F' s' σ' H' → Keep g F s σ H F' s' σ' H' → E.bk σ' H'
  | .ct => ∀ F' σ' H', Sim g F' s' σ' H' → Keep g F s σ H F' s' σ' H' → E.ct σ' H'
  | .rt res => ∀ F' σ' v H', Sim g F' s' σ' H' → Keep g F s σ H F' s' σ' H' → XOk g F' σ s.e H H' res v → E.rt v H'
def tS (g : G) (m : MS g.R.S) : TS := fun E σ H => ∃ F s fl s', Sim g F s σ H ∧ m s = some (fl, s') ∧ Out g E F s σ H s' fl
def DS (g : G) (X : Cx) (st : Stmt) (m : MS g.R.S) : Prop := PS X st (tS g m)
def DB (g : G) (X : Cx) (sts : List Stmt) (m : MS g.R.S) : Prop := PSs X sts (tS g m)
theorem PS.imp {X : Cx} {e : Stmt} {t t' : TS} (h : PS X e t) (w : ∀ E σ H, t' E σ H → t E σ H) : PS X e t' := ⟨fun pins s σ H E I q => h.run pins s σ H E I (w _ _ _ q)⟩
theorem PSs.imp {X : Cx} {e : List Stmt} {t t' : TS} (h : PSs X e t) (w : ∀ E σ H, t' E σ H → t E σ H) : PSs X e t' := ⟨fun pins s σ H E I q => h.run pins s σ H E I (w _ _ _ q)⟩
/-- what follows, behind a step that is kept -/
theorem Out.base {E : Ends} {F F1 : Hp} {s s1 s' : S g.R.S} {σ σ1 : St} {H H1 : Hp} {fl : Fl} (K : Keep g F s σ H F1 s1 σ1 H1) (o : Out g E F s σ H s' fl) : Out g E F1 s1 σ1 H1 s' fl := by
  cases fl with
  | nx => exact fun F' σ' H' I' K' => o F' σ' H' I' (K.trans K' I')
  | bk => exact fun F' σ' H' I' K' => o F' σ' H' I' (K.trans K' I')
  | ct => exact fun F' σ' H' I' K' => o F' σ' H' I' (K.trans K' I')
  | rt res => exact fun F' σ' v H' I' K' r => o F' σ' v H' I' (K.trans K' I') (r.base K)
def mNx {R : Type} : MS R := fun s => some (.nx, s)
def mSeq {R : Type} (m n : MS R) : MS R := fun s => (m s).bind fun p => match p.1 with
  | .nx => n p.2
  | f => some (f, p.2)
theorem b_nil : DB g X [] mNx := PSs.imp pss_nil fun E σ H ⟨F, s, fl, s', I, e, o⟩ => by
  cases e
  exact o F σ H I Keep.refl
theorem b_cons {st : Stmt} {rest : List Stmt} {m n : MS g.R.S} (h1 : DS g X st m) (h2 : DB g X rest n) : DB g X (st :: rest) (mSeq m n) := by
  refine PSs.imp (pss_cons h1 h2) fun E σ H ⟨F, s, fl, s', I, e, o⟩ => ?_
  unfold mSeq at e
  obtain ⟨⟨f, s1⟩, e1, e⟩ := Option.bind_eq_some_iff.mp e
  refine ⟨F, s, f, s1, I, e1, ?_⟩
  cases f with
  | nx => exact fun F' σ' H' I' K' => ⟨F', s1, fl, s', I', e, o.base K'⟩
  | bk => cases e; exact o
  | ct => cases e; exact o
  | rt r => cases e; exact o
theorem b_one {st : Stmt} {m : MS g.R.S} (h1 : DS g X st m) : DB g X [st] m := pss_one h1
def mBk {R : Type} : MS R := fun s => some (.bk, s)
def mCt {R : Type} : MS R := fun s => some (.ct, s)
/-- a statement that is never come to -/
def mNo {R : Type} : MS R := fun _ => none
theorem s_no {st : Stmt} : DS g X st mNo := PS.imp ps_never fun E σ H ⟨F, s, fl, s', I, e, o⟩ => by cases e
def mEx {R : Type} (ma : M R Vr) : MS R := fun s => (ma s).map fun p => (.nx, p.2)
theorem s_expr {e : Expr} {ma : M g.R.S Vr} {pos : Pos} (h : DE g X e ma) (hs : swapsWith e none pos.line X.env = pure false := by rfl) : DS g X (.Expr e pos) (mEx ma) := PS.imp (ps_expr h hs) fun E σ H ⟨F, s, fl, s', I, e, o⟩ => by
  unfold mEx at e
  obtain ⟨p, e1, e⟩ := Option.map_eq_some_iff.mp e
  cases e
  exact ⟨F, s, p.1, p.2, I, e1, fun F' v H' I' K' _ => o F' σ H' I' K'⟩
/-- return e: a slot's own thing goes out -/
def mRt {R : Type} (ma : M R Vr) : MS R := fun s => (ma s).bind fun p => match p.1 with
  | .sl i => match p.2.e[i]? with
    | some (some c) => some (.rt (if c.own then .tmp c.d else .sh c.d), p.2)
    | _ => none
  | r => some (.rt r, p.2)
theorem s_ret {e : Expr} {ma : M g.R.S Vr} {pos : Pos} (h : DE g X e ma) : DS g X (.Return (some e) pos) (mRt ma) := PS.imp (ps_ret h) fun E σ H ⟨F, s, fl, s', I, e, o⟩ => by
  unfold mRt at e
  obtain ⟨⟨r, s1⟩, e1, e⟩ := Option.bind_eq_some_iff.mp e
  refine ⟨F, s, r, s1, I, e1, fun F' v H' I' K' w => ?_⟩
  cases r with
  | sh d => cases e; exact o F' σ v H' I' K' w
  | tmp d =>
    cases e
    obtain ⟨p, q, rfl, h0, h1, h2, h3, h4, h5⟩ := w
    exact o F' σ _ H' I' K' ⟨p, q, rfl, .inr h0, h1, h2, h4, h5⟩
  | sl i =>
    have w : σ[i]? = some (some v) := w
    have e : (match s1.e[i]? with | some (some c) => some (Fl.rt (if c.own then .tmp c.d else .sh c.d), s1) | _ => none) = some (fl, s') := e
    split at e
    · rename_i c ec
      cases e
      obtain ⟨v', f1, q⟩ := I'.cell i c ec
      rw [w] at f1; cases f1
      rcases q with ⟨ho, q⟩ | ⟨ho, p, oo, rfl, b2, b3, b4, b5⟩
      · rw [ho] at o; exact o F' σ _ H' I' K' q
      · rw [ho] at o
        exact o F' σ _ H' I' K' ⟨p, oo, rfl, K'.own p ⟨i, c, ec, ho, w⟩, b2, b3, b4, b5⟩
    · cases e
def mRtN {R : Type} : MS R := fun s => some (.rt (.sh .non), s)
def mIte {R : Type} (mc : M R Vr) (m n : MS R) : MS R := fun s => (mc s).bind fun p => match p.1 with
  | .sh (.bl true) => m p.2
  | .sh (.bl false) => n p.2
  | _ => none
theorem mIte_inv {mc : M g.R.S Vr} {m n : MS g.R.S} {s : S g.R.S} {x : Fl × S g.R.S} (e : mIte mc m n s = some x) : ∃ b s', mc s = some (.sh (.bl b), s') ∧ (if b = true then m s' = some x else n s' = some x) := by
  obtain ⟨b, s', e1, e2⟩ := first_bl (F := fun v s' => match v with
    | .sh (.bl true) => m s'
    | .sh (.bl false) => n s'
    | _ => none) (ma := mc) (s := s) e (fun v s' h => by
      cases v with
      | sh d => cases d with
        | bl b => exact ⟨b, rfl⟩
        | _ => cases h
      | _ => cases h)
  refine ⟨b, s', e1, ?_⟩
  cases b with
  | true => exact e2
  | false => exact e2
theorem s_if {c : Expr} {a b : List Stmt} {mc : M g.R.S Vr} {m n : MS g.R.S} {pos : Pos} (hc : DT g X c mc) (ha : DB g X a m) (hb : DB g X b n) : DS g X (.If c a b pos) (mIte mc m n) := by
  refine PS.imp (ps_if hc ha hb) fun E σ H ⟨F, s, fl, s', I, e, o⟩ => ?_
  obtain ⟨c, s1, e1, e2⟩ := mIte_inv e
  refine ⟨F, s, c, s1, I, e1, fun F1 H1 I1 K1 => ?_⟩
  cases c with
  | true => exact ⟨F1, s1, fl, s', I1, e2, o.base K1⟩
  | false => exact ⟨F1, s1, fl, s', I1, e2, o.base K1⟩
end
end RW
namespace RW
open PySem L2
section
variable {g : G} {X : Cx}
/-! ### a slot is stored -/
theorem Sim.set {F : Hp} {s : S g.R.S} {σ : St} {H : Hp} (I : Sim g F s σ H) (i : Nat) {c : Cell} {v : V} (q : CellOk g F H c v) (hap : c.own = true → ∀ p, v = .ref p → ∀ j cj, j ≠ i → s.e[j]? = some (some cj) → cj.own = true → σ[j]? ≠ some (some (.ref p))) :
    Sim g F { s with e := s.e.set i (some c) } (σ.set i (some v)) H := by
  have len : (s.e.set i (some c)).length = (σ.set i (some v)).length := by simpa using I.len
  refine ⟨I.sub, I.at_, I.foot, len, fun j cj ej => ?_, fun j k cj ck a hne ej ek oj ok hj => ?_⟩
  · by_cases hj : j = i
    · subst hj
      have hl : j < s.e.length := by
        have := (List.getElem?_eq_some_iff.mp ej).1
        simpa using this
      rw [show ({ s with e := s.e.set j (some c) } : S g.R.S).e = s.e.set j (some c) from rfl, List.getElem?_set_self hl] at ej
      cases ej
      exact ⟨v, List.getElem?_set_self (by rw [← I.len]; exact hl), q⟩
    · rw [show ({ s with e := s.e.set i (some c) } : S g.R.S).e = s.e.set i (some c) from rfl, List.getElem?_set_ne (Ne.symm hj)] at ej
      rw [List.getElem?_set_ne (Ne.symm hj)]
      exact I.cell j cj ej
  · replace ej : (s.e.set i (some c))[j]? = some (some cj) := ej
    replace ek : (s.e.set i (some c))[k]? = some (some ck) := ek
    have hl : ∀ {m : Nat} {cm : Cell}, (s.e.set i (some c))[m]? = some (some cm) → m < s.e.length := fun {m cm} h => by
      have := (List.getElem?_eq_some_iff.mp h).1
      simpa using this
    by_cases h1 : j = i
    · subst h1
      have l := hl ej
      rw [List.getElem?_set_self l] at ej
      cases ej
      rw [List.getElem?_set_self (by rw [← I.len]; exact l)] at hj
      cases hj
      have hk : k ≠ j := Ne.symm hne
      rw [List.getElem?_set_ne hne] at ek ⊢
      exact hap oj a rfl k ck hk ek ok
    · rw [List.getElem?_set_ne (Ne.symm h1)] at ej hj
      by_cases h2 : k = i
      · subst h2
        have l := hl ek
        rw [List.getElem?_set_self l] at ek
        cases ek
        rw [List.getElem?_set_self (by rw [← I.len]; exact l)]
        intro z
        cases z
        exact hap ok a rfl j cj h1 ej oj hj
      · rw [List.getElem?_set_ne (Ne.symm h2)] at ek ⊢
        exact I.apart j k cj ck a hne ej ek oj ok hj
theorem Own.set {e : List (Option Cell)} {σ : St} {i : Nat} {c : Cell} {v : V} {a : Addr} (hl : e.length = σ.length) (h : Own (σ.set i (some v)) (e.set i (some c)) a) : Own σ e a ∨ (c.own = true ∧ v = .ref a) := by
  obtain ⟨j, cj, h1, h2, h3⟩ := h
  by_cases hj : j = i
  · subst hj
    have l : j < e.length := by
      have := (List.getElem?_eq_some_iff.mp h1).1
      simpa using this
    rw [List.getElem?_set_self l] at h1
    cases h1
    rw [List.getElem?_set_self (by rw [← hl]; exact l)] at h3
    cases h3
    exact .inr ⟨h2, rfl⟩
  · rw [List.getElem?_set_ne (Ne.symm hj)] at h1 h3
    exact .inl ⟨j, cj, h1, h2, h3⟩
/-- a value comes to a slot -/
def put {R : Type} (i : Nat) (r : Vr) (s : S R) : Option (S R) := match r with
  | .sh d => some { s with e := s.e.set i (some ⟨d, false⟩) }
  | .tmp d => some { s with e := s.e.set i (some ⟨d, true⟩) }
  | .sl _ => none
/-- a slot's thing is let go, all else stays -/
def hard {R : Type} (r : Vr) : M R Vr := fun s => match r with
  | .sl i => (esc (.sl i) s).map fun p => (.sh p.1, p.2)
  | r => some (r, s)
theorem VOk.keep {F F1 : Hp} {s s1 : S g.R.S} {σ : St} {H0 H H1 : Hp} {r : Vr} {v : V} (h : VOk g F s σ H0 H r v) (K : Keep g F s σ H F1 s1 σ H1) : VOk g F1 s1 σ H0 H1 r v := by
  cases r with
  | sh d => exact Rep.mono K.grow h
  | sl i => exact h
  | tmp d =>
    obtain ⟨p, o, rfl, h0, h1, h2, h3, h4, h5⟩ := h
    refine ⟨p, o, rfl, h0, K.nof p o h4 h5.nt h1 h3, h2, fun z => ?_, K.heap p o h4 h3 h2, h5.mono K.grow⟩
    rcases K.own p z with z | z
    · exact h3 z
    · rw [h4] at z; cases z
theorem hard_ok {F : Hp} {s s' : S g.R.S} {σ : St} {H0 H : Hp} {r r' : Vr} {v : V} (I : Sim g F s σ H) (h : VOk g F s σ H0 H r v) (e : hard r s = some (r', s')) : ∃ F', Sim g F' s' σ H ∧ Keep g F s σ H F' s' σ H ∧ VOk g F' s' σ H0 H r' v ∧ ∀ i, r' ≠ .sl i := by
  cases r with
  | sh d => cases e; exact ⟨F, I, Keep.refl, h, fun _ z => nomatch z⟩
  | tmp d => cases e; exact ⟨F, I, Keep.refl, h, fun _ z => nomatch z⟩
  | sl i =>
    obtain ⟨p, e1, e⟩ := Option.map_eq_some_iff.mp (show (esc (.sl i) s).map (fun p => (Vr.sh p.1, p.2)) = some (r', s') from e)
    cases e
    obtain ⟨F', I', K', r⟩ := esc_ok (r := .sl i) I h e1
    exact ⟨F', I', K', r, fun _ z => nomatch z⟩
theorem put_ok {F F0 : Hp} {s s0 s' : S g.R.S} {σ σ0 : St} {H0 H : Hp} {i : Nat} {r : Vr} {v : V} (I : Sim g F s σ H) (K : Keep g F0 s0 σ0 H0 F s σ H) (h : VOk g F s σ H0 H r v) (e : put i r s = some s') : Sim g F s' (σ.set i (some v)) H ∧ Keep g F0 s0 σ0 H0 F s' (σ.set i (some v)) H := by
  cases r with
  | sl j => cases e
  | sh d =>
    cases e
    have h : Rep g F v d := h
    refine ⟨I.set i (.inl ⟨rfl, h⟩) (fun z => nomatch z), ⟨K.heap, K.grow, K.nof, fun a z => ?_, K.there⟩⟩
    rcases z.set I.len with z | ⟨z, _⟩
    · exact K.own a z
    · cases z
  | tmp d =>
    cases e
    obtain ⟨p, o, rfl, h0, h1, h2, h3, h4, h5⟩ := h
    refine ⟨I.set i (.inr ⟨rfl, p, o, rfl, h1, h2, h4, h5⟩) fun _ q eq j cj hj ej oj z => ?_, ⟨K.heap, K.grow, K.nof, fun a z => ?_, K.there⟩⟩
    · cases eq
      exact h3 ⟨j, cj, ej, oj, z⟩
    · rcases z.set I.len with z | ⟨_, z⟩
      · exact K.own a z
      · cases z
        exact .inr h0
def mSet {R : Type} (i : Nat) (ma : M R Vr) : MS R := fun s => (ma s).bind fun p => (hard p.1 p.2).bind fun q => (put i q.1 q.2).map fun s' => (.nx, s')
theorem tSet_of {i : Nat} {ma : M g.R.S Vr} {E : Ends} {σ : St} {H : Hp} (h : tS g (mSet i ma) E σ H) : tM g ma σ H fun x H1 => E.nx (σ.set i (some x)) H1 := by
  obtain ⟨F, s, fl, s', I, e, o⟩ := h
  unfold mSet at e
  obtain ⟨p, e1, e⟩ := Option.bind_eq_some_iff.mp e
  obtain ⟨q, e2, e⟩ := Option.bind_eq_some_iff.mp e
  obtain ⟨s2, e3, e⟩ := Option.map_eq_some_iff.mp e
  cases e
  refine ⟨F, s, p.1, p.2, I, e1, fun F1 v H1 I1 K1 w => ?_⟩
  obtain ⟨F2, I2, K2, w2, _⟩ := hard_ok I1 w e2
  have K12 := K1.trans K2 I2
  obtain ⟨I3, K3⟩ := put_ok I2 K12 w2 e3
  exact o F2 _ H1 I3 K3
theorem s_set {i : Nat} {x : Str} {e : Expr} {ma : M g.R.S Vr} {pos' pos : Pos} (hN : X.N.Nodup) (he : DE g X e ma) (hi : X.N[i]? = some x := by rfl) (hx : Loc X.env.scope x := by first | exact Or.inl rfl | exact Or.inr rfl) (hs : swapsWith e (some (.Name x pos')) pos.line X.env = pure false := by rfl)
    (hf : X.fn x = true ∨ X.env.scope.names.lookup x = some .local := by first | exact .inl rfl | exact .inr rfl | assumption) : DS g X (.Assign [.Name x pos'] e pos) (mSet i ma) :=
  PS.imp (ps_set hN hi hx he hs hf) fun E σ H h => tSet_of h
/-! ### a, b = x, y -/
theorem VOk.put {F : Hp} {s s' : S g.R.S} {σ : St} {H0 H : Hp} {i : Nat} {r r2 : Vr} {v v2 : V} (hl : s.e.length = σ.length) (h : VOk g F s σ H0 H r v) (h2 : VOk g F s σ H0 H r2 v2) (hne : ∀ d d2, r = .tmp d → r2 = .tmp d2 → v ≠ v2) (hs2 : ∀ i, r2 ≠ .sl i) (e : put i r s = some s') : VOk g F s' (σ.set i (some v)) H0 H r2 v2 := by
  cases r2 with
  | sl j => exact (hs2 j rfl).elim
  | sh d => exact h2
  | tmp d2 =>
    obtain ⟨p, o, rfl, a0, a1, a2, a3, a4, a5⟩ := h2
    refine ⟨p, o, rfl, a0, a1, a2, fun z => ?_, a4, a5⟩
    cases r with
    | sl j => cases e
    | sh d =>
      cases e
      rcases z.set hl with z | ⟨z, _⟩
      · exact a3 z
      · cases z
    | tmp d =>
      cases e
      rcases z.set hl with z | ⟨_, z⟩
      · exact a3 z
      · exact hne d d2 rfl rfl z
end
end RW
namespace RW
open PySem L2
section
variable {g : G} {X : Cx}
/-! ### several values that stay one's own -/
def NotIn (v : V) : List Vr → List V → Prop
  | r :: rs, u :: us => ((∃ d, r = .tmp d) → v ≠ u) ∧ NotIn v rs us
  | _, _ => True
def VAll (g : G) (F : Hp) (s : S g.R.S) (σ : St) (H0 H : Hp) : List Vr → List V → Prop
  | [], [] => True
  | r :: rs, v :: vs => VOk g F s σ H0 H r v ∧ (∀ i, r ≠ .sl i) ∧ ((∃ d, r = .tmp d) → NotIn v rs vs) ∧ VAll g F s σ H0 H rs vs
  | _, _ => False
def mHards {R : Type} : List (M R Vr) → M R (List Vr)
  | [] => fun s => some ([], s)
  | m :: ms => fun s => (m s).bind fun p => (hard p.1 p.2).bind fun p' => (mHards ms p'.2).map fun q => (p'.1 :: q.1, q.2)
def tMH (g : G) (n : Nat) (m : M g.R.S (List Vr)) : TA := fun σ H Q => ∃ F s rs s', Sim g F s σ H ∧ m s = some (rs, s') ∧
  ∀ F' vs H', Sim g F' s' σ H' → Keep g F s σ H F' s' σ H' → VAll g F' s' σ H H' rs vs → vs.length = n → Q vs H'
def DH (g : G) (X : Cx) (n : Nat) (es : List Expr) (m : M g.R.S (List Vr)) : Prop := PA X es (tMH g n m)
theorem h_nil : DH g X 0 [] (mHards []) := PA.imp pa_nil fun σ H Q ⟨F, s, rs, s', I, e, k⟩ => by
  cases e
  exact k F [] H I Keep.refl trivial rfl
theorem VAll.new {F : Hp} {s : S g.R.S} {σ : St} {H H1 : Hp} : ∀ {rs : List Vr} {vs : List V}, VAll g F s σ H H1 rs vs → ∀ {p : Addr} {o : HO}, H p = some o → NotIn (.ref p) rs vs
  | [], [], _, _, _, _ => trivial
  | r :: rs, v :: vs, h, p, o, e => by
    refine ⟨fun ⟨d, hr⟩ z => ?_, VAll.new h.2.2.2 e⟩
    have h1 := h.1
    rw [hr] at h1
    obtain ⟨q, o', r1, r2, _⟩ := h1
    rw [r1] at z; cases z
    rw [e] at r2; cases r2
  | [], _ :: _, h, _, _, _ => h.elim
  | _ :: _, [], h, _, _, _ => h.elim
theorem VAll.base {F F1 F' : Hp} {s s1 s' : S g.R.S} {σ σ1 : St} {H H1 H' : Hp} (K1 : Keep g F s σ1 H F1 s1 σ H1) : ∀ {rs : List Vr} {vs : List V}, VAll g F' s' σ H1 H' rs vs → VAll g F' s' σ H H' rs vs
  | [], [], _ => trivial
  | _ :: _, _ :: _, h => ⟨h.1.base K1, h.2.1, h.2.2.1, VAll.base K1 h.2.2.2⟩
  | [], _ :: _, h => h.elim
  | _ :: _, [], h => h.elim
theorem VOk.nosl {F : Hp} {s : S g.R.S} {σ : St} {H0 H : Hp} {r : Vr} {v : V} (h : VOk g F s σ H0 H r v) (d : D) (e : r = .tmp d) : ∃ p o, v = .ref p ∧ H p = some o := by
  subst e
  obtain ⟨p, o, r1, _, _, _, _, r6, _⟩ := h
  exact ⟨p, o, r1, r6⟩
theorem h_cons {e : Expr} {es : List Expr} {n : Nat} {m : M g.R.S Vr} {ms : List (M g.R.S Vr)} (ha : DE g X e m) (hr : DH g X n es (mHards ms)) (hs : starEach (e :: es) X.env = (false, eval e X.env) :: starEach es X.env := by rfl) : DH g X (n + 1) (e :: es) (mHards (m :: ms)) := by
  refine PA.imp (pa_cons ha hr hs) fun σ H Q ⟨F, s, rs, s', I, e, k⟩ => ?_
  unfold mHards at e
  obtain ⟨p, e1, e⟩ := Option.bind_eq_some_iff.mp e
  obtain ⟨p', e2, e⟩ := Option.bind_eq_some_iff.mp e
  obtain ⟨q, e3, e⟩ := Option.map_eq_some_iff.mp e
  cases e
  refine ⟨F, s, p.1, p.2, I, e1, fun F1 v H1 I1 K1 w => ?_⟩
  obtain ⟨F2, I2, K2, w2, n2⟩ := hard_ok I1 w e2
  have K12 := K1.trans K2 I2
  refine ⟨F2, _, q.1, q.2, I2, e3, fun F3 vs H3 I3 K3 w3 hl => ?_⟩
  refine k F3 (v :: vs) H3 I3 (K12.trans K3 I3) ⟨w2.keep K3, n2, fun ⟨d, hd⟩ => ?_, VAll.base K12 w3⟩ (by simp [hl])
  obtain ⟨a, o, rfl, e4⟩ := w2.nosl d hd
  exact VAll.new w3 e4
def puts {R : Type} : List Nat → List Vr → S R → Option (S R)
  | [], [], s => some s
  | i :: is, r :: rs, s => (put i r s).bind fun s1 => puts is rs s1
  | _, _, _ => none
def sets (σ : St) : List Nat → List V → St
  | i :: is, v :: vs => sets (σ.set i (some v)) is vs
  | _, _ => σ
theorem VAll.put {F : Hp} {s s' : S g.R.S} {σ : St} {H0 H : Hp} {i : Nat} {r : Vr} {v : V} (hl : s.e.length = σ.length) (h : VOk g F s σ H0 H r v) (e : put i r s = some s') : ∀ {rs : List Vr} {vs : List V}, VAll g F s σ H0 H rs vs → ((∃ d, r = .tmp d) → NotIn v rs vs) → VAll g F s' (σ.set i (some v)) H0 H rs vs
  | [], [], _, _ => trivial
  | r2 :: rs, v2 :: vs, w, hn => ⟨VOk.put hl h w.1 (fun d d2 z1 z2 => (hn ⟨d, z1⟩).1 ⟨d2, z2⟩) w.2.1 e, w.2.1, w.2.2.1, VAll.put hl h e w.2.2.2 fun z => (hn z).2⟩
  | [], _ :: _, w, _ => w.elim
  | _ :: _, [], w, _ => w.elim
theorem puts_ok {F F0 : Hp} {s0 : S g.R.S} {σ0 : St} {H0 H : Hp} : ∀ {is : List Nat} {rs : List Vr} {vs : List V} {s s' : S g.R.S} {σ : St}, Sim g F s σ H → Keep g F0 s0 σ0 H0 F s σ H → VAll g F s σ H0 H rs vs → puts is rs s = some s' → Sim g F s' (sets σ is vs) H ∧ Keep g F0 s0 σ0 H0 F s' (sets σ is vs) H
  | [], [], [], _, _, _, I, K, _, e => by cases e; exact ⟨I, K⟩
  | i :: is, r :: rs, v :: vs, s, s', σ, I, K, w, e => by
    obtain ⟨s1, e1, e⟩ := Option.bind_eq_some_iff.mp (show (put i r s).bind (fun s1 => puts is rs s1) = some s' from e)
    obtain ⟨I1, K1⟩ := put_ok I K w.1 e1
    exact puts_ok (is := is) I1 K1 (VAll.put I.len w.1 e1 w.2.2.2 w.2.2.1) e
  | [], [], _ :: _, _, _, _, _, _, w, _ => w.elim
  | _, _ :: _, [], _, _, _, _, _, w, _ => w.elim
  | [], _ :: _, _ :: _, _, _, _, _, _, _, e => by cases e
  | _ :: _, [], _, _, _, _, _, _, _, e => by cases e
def mPar {R : Type} (is : List Nat) (ms : List (M R Vr)) : MS R := fun s => (mHards ms s).bind fun p => (puts is p.1 p.2).map fun s' => (.nx, s')
/-- swapped: two or three plain names -/
theorem s_par2' {i j : Nat} {x y : Str} {a b : Expr} {ms : List (M g.R.S Vr)} {px py pt pos : Pos} {kt k2 pt2} (hc : X.calm = true) (hN : X.N.Nodup) (ha : DH g X 2 [a, b] (mHards ms))
    (hi : X.N[i]? = some x := by rfl) (hj : X.N[j]? = some y := by rfl) (hij : i ≠ j := by decide) (hx : X.env.scope.names.lookup x = some .local := by rfl) (hy : X.env.scope.names.lookup y = some .local := by rfl)
    (hw : swappedStores [.Tuple [.Name x px, .Name y py] kt pt] (.Tuple [a, b] k2 pt2) X.env = pure (some [x, y]) := by rfl)
    (hs : swapsWithSole [.Tuple [.Name x px, .Name y py] kt pt] (.Tuple [a, b] k2 pt2) pos.line X.env = pure false := by rfl) :
    DS g X (.Assign [.Tuple [.Name x px, .Name y py] kt pt] (.Tuple [a, b] k2 pt2) pos) (mPar [i, j] ms) := by
  refine PS.imp (ps_par hc hN hi hj hij hx hy ha hw hs) fun E σ H ⟨F, s, fl, s', I, e, o⟩ => ?_
  unfold mPar at e
  obtain ⟨p, e1, e⟩ := Option.bind_eq_some_iff.mp e
  obtain ⟨s2, e2, e⟩ := Option.map_eq_some_iff.mp e
  cases e
  refine ⟨F, s, p.1, p.2, I, e1, fun F1 vs H1 I1 K1 w hl => ?_⟩
  match vs, hl with
  | [v, u], _ =>
    obtain ⟨I3, K3⟩ := puts_ok I1 K1 w e2
    exact ⟨v, u, rfl, o F1 _ H1 I3 K3⟩
/-- names of a target list -/
def gNames : List Nat → TGs
  | [] => gNil
  | i :: is => gCons (gName i) (gNames is)
theorem gNames_ok : ∀ {is : List Nat} {vs : List V} {σ : St} {H : Hp} {Q : St → Hp → Prop}, is.length = vs.length → Q (sets σ is vs) H → gNames is vs σ H Q
  | [], [], _, _, _, _, q => ⟨rfl, q⟩
  | i :: is, v :: vs, σ, H, Q, e, q => ⟨v, vs, rfl, gNames_ok (is := is) (by simpa using e) q⟩
  | [], _ :: _, _, _, _, e, _ => by cases e
  | _ :: _, [], _, _, _, e, _ => by cases e
theorem VAll.ext {F F' : Hp} {s : S g.R.S} {σ : St} {H0 H H' : Hp} (x : Ext F H F' H') : ∀ {rs : List Vr} {vs : List V}, VAll g F s σ H0 H rs vs → VAll g F' s σ H0 H' rs vs
  | [], [], _ => trivial
  | _ :: _, _ :: _, h => ⟨h.1.keep (Keep.ext x), h.2.1, h.2.2.1, VAll.ext x h.2.2.2⟩
  | [], _ :: _, h => h.elim
  | _ :: _, [], h => h.elim
/-- by a tuple that is thrown away -/
theorem s_parT {ts es : List Expr} {n : Nat} {is : List Nat} {ms : List (M g.R.S Vr)} {pt pt2 pos : Pos} {kt k2} (hc : X.calm = true) (ha : DH g X n es (mHards ms)) (hg : PGs X ts (gNames is)) (hn : n ≤ sizeLine := by decide) (hi : is.length = n := by rfl)
    (hl : (assignEach ts X.env).length = n := by rfl) (hst : (assignEach ts X.env).findIdx? (·.1) = none := by rfl)
    (hs : swapsWithSole [.Tuple ts kt pt] (.Tuple es k2 pt2) pos.line X.env = pure false := by rfl) (hw : swappedStores [.Tuple ts kt pt] (.Tuple es k2 pt2) X.env = pure none := by rfl) :
    DS g X (.Assign [.Tuple ts kt pt] (.Tuple es k2 pt2) pos) (mPar is ms) := by
  refine PS.imp (ps_asg (pe_tup ha) (pg_tup hc hg hl hst) hs hw) fun E σ H ⟨F, s, fl, s', I, e, o⟩ => ?_
  unfold mPar at e
  obtain ⟨p, e1, e⟩ := Option.bind_eq_some_iff.mp e
  obtain ⟨s2, e2, e⟩ := Option.map_eq_some_iff.mp e
  cases e
  refine ⟨F, s, p.1, p.2, I, e1, fun F1 vs H1 I1 K1 w hl => ⟨by rw [hl]; exact hn, fun a ha => ?_⟩⟩
  have x : Ext F1 H1 F1 (upd H1 a (.tup vs)) := Ext.tmp I1.sub ha
  have I2 := I1.ext x
  obtain ⟨I3, K3⟩ := puts_ok I2 (K1.trans (Keep.ext x) I2) (VAll.ext x w) e2
  exact ⟨a, vs, rfl, SqT.of upd_same, hl, gNames_ok (by rw [hi, hl]) (o F1 _ _ I3 K3)⟩
theorem gs_nil : PGs X [] (gNames []) := pgs_nil
theorem gs_cons {x : Str} {pos : Pos} {es : List Expr} {i : Nat} {is : List Nat} (hN : X.N.Nodup) (h2 : PGs X es (gNames is)) (hi : X.N[i]? = some x := by rfl) (hx : Loc X.env.scope x := by first | exact Or.inl rfl | exact Or.inr rfl)
    (hf : X.fn x = true ∨ X.env.scope.names.lookup x = some .local := by first | exact .inl rfl | exact .inr rfl | assumption) : PGs X (.Name x pos :: es) (gNames (i :: is)) := pgs_cons (pg_name hN hi hx hf) h2
end
end RW
namespace RW
open PySem L2
/-- where one stands, as far as the rules want it -/
structure XO (g : G) (k : Nat) (X : Cx) : Prop where
  K : X.K = g.K
  rm : Room k X.A
  calm : X.calm = true
  nd : X.N.Nodup
  gd : X.A.guards = some []
  sy : ∃ u, X.base.get? sysModules = some u
theorem XO.blk {g : G} {k : Nat} {X : Cx} (o : XO g k X) {s : Shared} {H : Hp} {sc : Scope} {ce : Env} {fp : List Addr} : XO g k (X.blk s H sc ce fp) := ⟨o.K, o.rm, o.calm, o.nd, o.gd, o.sy⟩
theorem XO.hu {g : G} {k : Nat} {X : Cx} (o : XO g k X) : X.A.units + 1 < cLine := hu_of o.rm
theorem XO.hu64 {g : G} {k : Nat} {X : Cx} (o : XO g k X) : X.A.units + 64 < cLine := o.rm.units
theorem XO.mono {g : G} {j k : Nat} {X : Cx} (o : XO g k X) (h : j ≤ k) : XO g j X := ⟨o.K, o.rm.mono h, o.calm, o.nd, o.gd, o.sy⟩
section
variable {g : G} {X : Cx} {F H : Hp}
/-! ### what data tell of a value -/
theorem Pk.lst {v : V} {ds : List D} (h : Sub F H) (p : Pk g F H v (.lst ds)) : ∃ a xs, v = .ref a ∧ H a = some (.lst xs) ∧ RepAll g F xs ds := by
  rcases p with p | ⟨a, o, rfl, e, p⟩
  · cases p with
    | ref e q =>
      cases q with
      | lst q =>
        rcases h _ _ e with z | ⟨z, _⟩
        · exact ⟨_, _, rfl, z, q⟩
        · rcases z with ⟨_, z⟩ | ⟨_, z⟩ <;> cases z
  · cases p with
    | lst q => exact ⟨_, _, rfl, e, q⟩
theorem Pk.tup {v : V} {ds : List D} (h : Sub F H) (p : Pk g F H v (.tup ds)) : ∃ a xs, v = .ref a ∧ SqT g.K H a xs ∧ RepAll g F xs ds := by
  rcases p with p | ⟨a, o, rfl, e, p⟩
  · cases p with
    | ref e q => cases q
    | tup e q =>
      rcases h _ _ e with z | ⟨z, _⟩
      · exact ⟨_, _, rfl, SqT.of z, q⟩
      · rcases z with ⟨_, z⟩ | ⟨_, z⟩ <;> cases z
    | kt e q _ => exact ⟨_, _, rfl, .inr e, q⟩
  · cases p
theorem Pk.dK {v : V} {es : List (D × D)} (h : Sub F H) (p : Pk g F H v (.dct false es)) : ∃ a kvs, v = .ref a ∧ Rd H a (.dK kvs) ∧ RepK g F kvs es := by
  rcases p with p | ⟨a, o, rfl, e, p⟩
  · cases p with
    | ref e q =>
      cases q with
      | dK q =>
        rcases h _ _ e with z | ⟨_, ob, z⟩
        · exact ⟨_, _, rfl, .inl z, q⟩
        · exact ⟨_, _, rfl, .inr ⟨ob, z⟩, q⟩
  · cases p with
    | dK q => exact ⟨_, _, rfl, .inl e, q⟩
theorem Pk.dT {v : V} {es : List (D × D)} (h : Sub F H) (p : Pk g F H v (.dct true es)) : ∃ a kvs, v = .ref a ∧ Rd H a (.dT kvs) ∧ RepT g F kvs es := by
  rcases p with p | ⟨a, o, rfl, e, p⟩
  · cases p with
    | ref e q =>
      cases q with
      | dT q =>
        rcases h _ _ e with z | ⟨_, ob, z⟩
        · exact ⟨_, _, rfl, .inl z, q⟩
        · exact ⟨_, _, rfl, .inr ⟨ob, z⟩, q⟩
  · cases p with
    | dT q => exact ⟨_, _, rfl, .inl e, q⟩
theorem Pk.obj {v : V} {c : Nat} {ds : List (Str × D)} (h : Sub F H) (p : Pk g F H v (.obj c ds)) : ∃ a dx fs, v = .ref a ∧ H a = some (.ins (g.cls c) dx fs) ∧ RepF g F fs ds := by
  rcases p with p | ⟨a, o, rfl, e, p⟩
  · cases p with
    | ref e q =>
      cases q with
      | ins q =>
        rcases h _ _ e with z | ⟨z, _⟩
        · exact ⟨_, _, _, rfl, z, q⟩
        · rcases z with ⟨_, z⟩ | ⟨_, z⟩ <;> cases z
  · cases p with
    | ins q => exact ⟨_, _, _, rfl, e, q⟩
theorem Pk.non {v : V} (p : Pk g F H v .non) : v = .non := by
  rcases p with p | ⟨_, _, _, _, p⟩
  · cases p with
    | non => rfl
    | ref _ q => cases q
  · cases p
theorem Pk.bl {v : V} {b : Bool} (p : Pk g F H v (.bl b)) : v = .bl b := by
  rcases p with p | ⟨_, _, _, _, p⟩
  · cases p with
    | bl => rfl
    | ref _ q => cases q
  · cases p
theorem Pk.int {v : V} {i : Int} (p : Pk g F H v (.int i)) : v = .int i := by
  rcases p with p | ⟨_, _, _, _, p⟩
  · cases p with
    | int => rfl
    | ref _ q => cases q
  · cases p
theorem Pk.str {v : V} {x : Str} (p : Pk g F H v (.str x)) : v = .str x := by
  rcases p with p | ⟨_, _, _, _, p⟩
  · cases p with
    | str => rfl
    | ref _ q => cases q
  · cases p
theorem Pk.scr {v : V} {ns : List Int} (h : Sub F H) (p : Pk g F H v (.scr ns)) : ∃ a, v = .ref a ∧ SqL g.K H a (ns.map V.int) := by
  rcases p with p | ⟨a, o, rfl, e, p⟩
  · cases p with
    | kscr q => exact ⟨_, rfl, q H⟩
    | ref e q =>
      cases q with
      | scr =>
        rcases h _ _ e with z | ⟨z, _⟩
        · exact ⟨_, rfl, .inl (.inr ⟨_, z⟩)⟩
        · rcases z with ⟨_, z⟩ | ⟨_, z⟩ <;> cases z
  · cases p with
    | scr => exact ⟨_, rfl, .inl (.inr ⟨_, e⟩)⟩
/-! ### targets -/
inductive Tg where
  | nm (i : Nat) | tp (ts : List Tg)
mutual
def bindT : Tg → D → List (Option Cell) → Option (List (Option Cell))
  | .nm i, d, e => some (e.set i (some ⟨d, false⟩))
  | .tp ts, .tup ds, e => bindTs ts ds e
  | .tp ts, .lst ds, e => bindTs ts ds e
  | .tp _, _, _ => none
def bindTs : List Tg → List D → List (Option Cell) → Option (List (Option Cell))
  | [], [], e => some e
  | t :: ts, d :: ds, e => (bindT t d e).bind fun e' => bindTs ts ds e'
  | _, _, _ => none
end
theorem bindTs_len : ∀ {ts : List Tg} {ds : List D} {e e' : List (Option Cell)}, bindTs ts ds e = some e' → ts.length = ds.length
  | [], [], _, _, _ => rfl
  | _ :: ts, _ :: ds, e, e', h => by
    unfold bindTs at h
    obtain ⟨e1, _, h⟩ := Option.bind_eq_some_iff.mp h
    simp [bindTs_len h]
  | [], _ :: _, _, _, h => by unfold bindTs at h; cases h
  | _ :: _, [], _, _, h => by unfold bindTs at h; cases h
mutual
def tSlots : Tg → List Nat
  | .nm i => [i]
  | .tp ts => tSlotss ts
def tSlotss : List Tg → List Nat
  | [] => []
  | t :: ts => tSlots t ++ tSlotss ts
end
def tG (g : G) (T : Tg) : TG := fun v σ H Q => ∃ F s d e', Sim g F s σ H ∧ Rep g F v d ∧ bindT T d s.e = some e' ∧ ∀ σ', Sim g F { s with e := e' } σ' H → (∀ a, Own σ' e' a → Own σ s.e a) → (∀ j, j ∉ tSlots T → σ'[j]? = σ[j]?) → Q σ' H
def tGs (g : G) (Ts : List Tg) : TGs := fun vs σ H Q => ∃ F s ds e', Sim g F s σ H ∧ RepAll g F vs ds ∧ bindTs Ts ds s.e = some e' ∧ ∀ σ', Sim g F { s with e := e' } σ' H → (∀ a, Own σ' e' a → Own σ s.e a) → (∀ j, j ∉ tSlotss Ts → σ'[j]? = σ[j]?) → Q σ' H
theorem PG.imp {tg : Expr} {t t' : TG} (h : PG X tg t) (w : ∀ v σ H Q, t' v σ H Q → t v σ H Q) : PG X tg t' := ⟨fun pins s σ H v u Q I r q => h.run pins s σ H v u Q I r (w _ _ _ _ q)⟩
theorem PGs.imp {tg : List Expr} {t t' : TGs} (h : PGs X tg t) (w : ∀ v σ H Q, t' v σ H Q → t v σ H Q) : PGs X tg t' := ⟨fun pins s σ H vs us Q I r q => h.run pins s σ H vs us Q I r (w _ _ _ _ q)⟩
theorem PG.or {tg : Expr} {t t' : TG} (h : PG X tg t) (h' : PG X tg t') : PG X tg (fun v σ H Q => t v σ H Q ∨ t' v σ H Q) := ⟨fun pins s σ H v u Q I r q => q.elim (h.run pins s σ H v u Q I r) (h'.run pins s σ H v u Q I r)⟩
theorem g_name {x : Str} {pos : Pos} {i : Nat} (hN : X.N.Nodup) (hi : X.N[i]? = some x := by rfl) (hx : Loc X.env.scope x := by first | exact Or.inl rfl | exact Or.inr rfl)
    (hf : X.fn x = true ∨ X.env.scope.names.lookup x = some .local := by first | exact .inl rfl | exact .inr rfl | assumption) : PG X (.Name x pos) (tG g (.nm i)) := by
  refine PG.imp (pg_name hN hi hx hf) fun v σ H Q ⟨F, s, d, e', I, r, e, k⟩ => ?_
  cases e
  refine k _ (I.set i (.inl ⟨rfl, r⟩) (fun z => nomatch z)) (fun a z => ?_) (fun j hj => List.getElem?_set_ne fun z => hj (by simp [tSlots, z]))
  rcases z.set I.len with z | ⟨z, _⟩
  · exact z
  · cases z
theorem ts_nil : PGs X [] (tGs g []) := PGs.imp pgs_nil fun vs σ H Q ⟨F, s, ds, e', I, r, e, k⟩ => by
  cases r with
  | nil => cases e; exact ⟨rfl, k σ I (fun _ h => h) fun _ _ => rfl⟩
  | cons _ _ => cases e
theorem ts_cons {e : Expr} {es : List Expr} {T : Tg} {Ts : List Tg} (h1 : PG X e (tG g T)) (h2 : PGs X es (tGs g Ts)) (hs : (assignEach (e :: es) X.env).map (·.2) = assign e X.env :: (assignEach es X.env).map (·.2) := by rfl) : PGs X (e :: es) (tGs g (T :: Ts)) := by
  refine PGs.imp (pgs_cons h1 h2 hs) fun vs σ H Q ⟨F, s, ds, e', I, r, e, k⟩ => ?_
  cases r with
  | nil => unfold bindTs at e; cases e
  | cons r1 r2 =>
    unfold bindTs at e
    obtain ⟨e1, h1, e⟩ := Option.bind_eq_some_iff.mp e
    exact ⟨_, _, rfl, F, s, _, e1, I, r1, h1, fun σ1 I1 o1 f1 => ⟨F, _, _, e', I1, r2, e, fun σ2 I2 o2 f2 => k σ2 I2 (fun a z => o1 a (o2 a z)) fun j hj => by
      simp only [tSlotss, List.mem_append, not_or] at hj
      rw [f2 j hj.2, f1 j hj.1]⟩⟩
theorem g_tup {es : List Expr} {kk : Nat} {pos : Pos} {Ts : List Tg} {n k : Nat} (o : XO g k X) (h : PGs X es (tGs g Ts)) (hn : (assignEach es X.env).length = n := by rfl) (hst : (assignEach es X.env).findIdx? (·.1) = none := by rfl) (hT : Ts.length = n := by rfl) :
    PG X (.Tuple es kk pos) (tG g (.tp Ts)) := by
  refine PG.imp (PG.or (pg_tup o.calm h hn hst) (pg_unl o.calm h hn hst)) fun v σ H Q ⟨F, s, d, e', I, r, e, k⟩ => ?_
  cases d with
  | tup ds =>
    unfold bindT at e
    obtain ⟨a, xs, rfl, q, r⟩ := Pk.tup I.sub (.inl r)
    exact .inl ⟨a, xs, rfl, by rw [o.K]; exact q, by rw [r.length, ← bindTs_len e, hT], F, s, ds, e', I, r, e, k⟩
  | lst ds =>
    unfold bindT at e
    obtain ⟨a, xs, rfl, q, r⟩ := Pk.lst I.sub (.inl r)
    exact .inr ⟨a, xs, rfl, SqL.of q, by rw [r.length, ← bindTs_len e, hT], F, s, ds, e', I, r, e, k⟩
  | _ => cases e
/-! a, b = e -/
def mUnp {R : Type} (T : Tg) (ma : M R Vr) : MS R := fun s => (ma s).bind fun p => (esc (soft p.1) p.2).bind fun q => (bindT T q.1 q.2.e).map fun e' => (.nx, { q.2 with e := e' })
theorem Keep.bind {F F0 : Hp} {s s0 : S g.R.S} {σ σ0 σ' : St} {H H0 : Hp} {e' : List (Option Cell)} (K : Keep g F0 s0 σ0 H0 F s σ H) (ow : ∀ a, Own σ' e' a → Own σ s.e a) : Keep g F0 s0 σ0 H0 F { s with e := e' } σ' H := ⟨K.heap, K.grow, K.nof, fun a z => K.own a (ow a z), K.there⟩
theorem s_unp {tg e : Expr} {T : Tg} {ma : M g.R.S Vr} {pos : Pos} (he : DE g X e ma) (hg : PG X tg (tG g T)) (hs : swapsWithSole [tg] e pos.line X.env = pure false := by rfl) (hw : swappedStores [tg] e X.env = pure none := by rfl) (h1 : (assignEach [tg] X.env).map (·.2) = [assign tg X.env] := by rfl) : DS g X (.Assign [tg] e pos) (mUnp T ma) := by
  refine PS.imp (ps_asg he hg hs hw h1) fun E σ H ⟨F, s, fl, s', I, e, o⟩ => ?_
  unfold mUnp at e
  obtain ⟨p, e1, e⟩ := Option.bind_eq_some_iff.mp e
  obtain ⟨q, e2, e⟩ := Option.bind_eq_some_iff.mp e
  obtain ⟨e', e3, e⟩ := Option.map_eq_some_iff.mp e
  cases e
  refine tM_soft I e1 fun F1 v H1 I1 K1 w => ?_
  obtain ⟨F2, I2, K2, r2⟩ := esc_ok I1 w e2
  exact ⟨F2, q.2, q.1, e', I2, r2, e3, fun σ' I3 ow _ => o F2 σ' H1 I3 ((K1.trans K2 I2).bind ow)⟩
end
end RW
namespace RW
open PySem L2
section
variable {g : G} {X : Cx}
/-! ### locks are taken off behind a statement, an expression -/
def Ul (X : Cx) (P : Hp → Prop) (H : Hp) : Prop := P H ∨ ∃ d od u, H d = some (.frz od u) ∧ (∀ o' u', X.H_0 d ≠ some (.frz o' u')) ∧ P (upd H d u)
def unE (X : Cx) (E : Ends) : Ends := ⟨fun σ H => Ul X (E.nx σ) H, fun v H => Ul X (E.rt v) H, fun σ H => Ul X (E.bk σ) H, fun σ H => Ul X (E.ct σ) H⟩
theorem Ul.inv {pins : List (Addr × Obj)} {σ : St} {H : Hp} {s : Shared} {P : Hp → Prop} (I : Inv X pins σ H s) (h : Ul X P H) : ∃ H', Inv X pins σ H' s ∧ P H' := by
  rcases h with h | ⟨d, od, u, e, n, h⟩
  · exact ⟨H, I, h⟩
  · exact ⟨_, I.unlock e n, h⟩
theorem ps_un {st : Stmt} {t : TS} (h : PS X st t) : PS X st (fun E σ H => t (unE X E) σ H) := by
  refine ⟨fun pins s σ H E I hw => thn (h.run pins s σ H _ I hw) fun f s1 q => ?_⟩
  cases f with
  | next => obtain ⟨σ', H', I2, q⟩ := q; obtain ⟨H2, I3, q⟩ := Ul.inv I2 q; exact ⟨σ', H2, I3, q⟩
  | brk => obtain ⟨σ', H', I2, q⟩ := q; obtain ⟨H2, I3, q⟩ := Ul.inv I2 q; exact ⟨σ', H2, I3, q⟩
  | cont => obtain ⟨σ', H', I2, q⟩ := q; obtain ⟨H2, I3, q⟩ := Ul.inv I2 q; exact ⟨σ', H2, I3, q⟩
  | ret v => obtain ⟨x, σ', H', I2, r, q⟩ := q; obtain ⟨H2, I3, q⟩ := Ul.inv I2 q; exact ⟨x, σ', H2, I3, r, q⟩
theorem pe_un' {e : Expr} {t : TE} (h : PE X e t) : PE X e (fun σ H Q => t σ H fun v H' => Ul X (Q v) H') := by
  refine ⟨fun pins s σ H Q I hw => thn (h.run pins s σ H _ I hw) fun v s1 ⟨x, H1, I2, r, q⟩ => ?_⟩
  obtain ⟨H2, I3, q⟩ := Ul.inv I2 q
  exact ⟨x, H2, I3, r, q⟩
/-! ### what is walked -/
structure IterOk (g : G) (F1 H1 : Hp) (J : It) (ds : List D) : Prop where
  go : ∀ F2 H2, Le F1 F2 → Sub F2 H2 → (∀ a u o, F1 a = some u → H1 a = some o → H2 a = some o) → ∀ (i : Nat) (d : D), ds[i]? = some d → J.go i H2 ∧ ∀ x H3, J.yld i H2 x H3 → ∃ F3, Ext F2 H2 F3 H3 ∧ Rep g F3 x d
  stop : ∀ F2 H2, Le F1 F2 → Sub F2 H2 → (∀ a u o, F1 a = some u → H1 a = some o → H2 a = some o) → J.stop ds.length H2
def Locked (X : Cx) (F1 H1 HL : Hp) : Prop := HL = H1 ∨ ∃ d u od, F1 d = some u ∧ IsDict u ∧ H1 d = some u ∧ HL = upd H1 d (.frz od u) ∧ ∀ o' u', X.H_0 d ≠ some (.frz o' u')
def tI (g : G) (X : Cx) (mi : M g.R.S (List D)) : TI := fun σ H R => ∃ F s ds s', Sim g F s σ H ∧ mi s = some (ds, s') ∧
  ∀ F1 H1 HL J, Sim g F1 s' σ H1 → Keep g F s σ H F1 s' σ H1 → Locked X F1 H1 HL → IterOk g F1 HL J ds → R J HL
def DI (g : G) (X : Cx) (tg iter : Expr) (mi : M g.R.S (List D)) : Prop := PI X tg iter (tI g X mi)
theorem PI.imp {tg iter : Expr} {t t' : TI} (h : PI X tg iter t) (w : ∀ σ H R, t' σ H R → t σ H R) : PI X tg iter t' := ⟨fun pins s σ H R I q => h.run pins s σ H R I (w _ _ _ q)⟩
theorem PI.or {tg iter : Expr} {t t' : TI} (h : PI X tg iter t) (h' : PI X tg iter t') : PI X tg iter (fun σ H R => t σ H R ∨ t' σ H R) := ⟨fun pins s σ H R I q => q.elim (h.run pins s σ H R I) (h'.run pins s σ H R I)⟩
/-- the locked heap serves as well -/
theorem Sim.lock {F H HL : Hp} {s : S g.R.S} {σ : St} (I : Sim g F s σ H) (l : Locked X F H HL) : Sim g F s σ HL := by
  rcases l with rfl | ⟨d, u, od, h1, h2, h3, rfl, _⟩
  · exact I
  · have nf : ¬ g.R.foot d := fun z => by rw [I.foot d z] at h1; cases h1
    refine ⟨fun a o e => ?_, g.R.stay I.at_ fun a ha => upd_ne (fun (z : a = d) => nf (by rw [← z]; exact ha)), I.foot, I.len, fun i c e => ?_, I.apart⟩
    · by_cases z : a = d
      · subst z
        rw [h1] at e; cases e
        exact .inr ⟨h2, od, upd_same⟩
      · rw [upd_ne z]; exact I.sub a o e
    · obtain ⟨v, e1, q⟩ := I.cell i c e
      refine ⟨v, e1, ?_⟩
      rcases q with ⟨a, b⟩ | ⟨a, p, o, b1, b2, b3, b4, b5⟩
      · exact .inl ⟨a, b⟩
      · refine .inr ⟨a, p, o, b1, b2, b3, ?_, b5⟩
        rw [upd_ne (fun z => by rw [z, h1] at b2; cases b2)]; exact b4
/-- .. and behind it the lock is taken off -/
theorem Sim.unlock {F F1 F' H H1 HL H' : Hp} {s s1 s' : S g.R.S} {σ σ1 σ' : St} {P : Hp → Prop} (I1 : Sim g F1 s1 σ1 H1) (K1 : Keep g F s σ H F1 s1 σ1 H1) (l : Locked X F1 H1 HL) (I : Sim g F' s' σ' H') (K : Keep g F1 s1 σ1 HL F' s' σ' H')
    (o : ∀ H2, (∀ a x, F' a = none → H' a = some x → H2 a = some x) → Sim g F' s' σ' H2 → Keep g F s σ H F' s' σ' H2 → P H2) : Ul X P H' := by
  rcases l with rfl | ⟨d, u, od, h1, h2, h3, rfl, h5⟩
  · exact .inl (o H' (fun _ _ _ h => h) I (K1.trans K I))
  · have nf : ¬ g.R.foot d := fun z => by rw [I1.foot d z] at h1; cases h1
    have no : ¬ Own σ1 s1.e d := fun z => by rw [(I1.own_at z).1] at h1; cases h1
    have hd : H' d = some (.frz od u) := K.heap d _ upd_same no nf
    have f' : F' d = some u := K.grow _ _ h1
    refine .inr ⟨d, od, u, hd, h5, ?_⟩
    have I2 : Sim g F' s' σ' (upd H' d u) := by
      refine ⟨fun a x e => ?_, g.R.stay I.at_ fun a ha => upd_ne (fun (z : a = d) => nf (by rw [← z]; exact ha)), I.foot, I.len, fun i c e => ?_, I.apart⟩
      · by_cases z : a = d
        · subst z
          rw [f'] at e; cases e
          exact .inl upd_same
        · rw [upd_ne z]; exact I.sub a x e
      · obtain ⟨v, e1, q⟩ := I.cell i c e
        refine ⟨v, e1, ?_⟩
        rcases q with ⟨a, b⟩ | ⟨a, p, o, b1, b2, b3, b4, b5⟩
        · exact .inl ⟨a, b⟩
        · refine .inr ⟨a, p, o, b1, b2, b3, ?_, b5⟩
          rw [upd_ne (fun z => by rw [z, f'] at b2; cases b2)]; exact b4
    have K2 : Keep g F1 s1 σ1 H1 F' s' σ' (upd H' d u) := by
      refine ⟨fun a x e n nf' => ?_, K.grow, fun a x e nt r n => ?_, fun a z => ?_, fun a x e => ?_⟩
      · by_cases z : a = d
        · subst z; rw [h3] at e; cases e; exact upd_same
        · rw [upd_ne z]; exact K.heap a x (by rw [upd_ne z]; exact e) n nf'
      · have z : a ≠ d := fun z => by rw [z, h1] at r; cases r
        exact K.nof a x (by rw [upd_ne z]; exact e) nt r n
      · rcases K.own a z with z | z
        · exact .inl z
        · by_cases y : a = d
          · subst y; rw [upd_same] at z; cases z
          · rw [upd_ne y] at z; exact .inr z
      · by_cases z : a = d
        · subst z; exact ⟨_, upd_same⟩
        · rw [upd_ne z]; exact K.there a x (by rw [upd_ne z]; exact e)
    exact o _ (fun a x n e => by rw [upd_ne (fun z => by rw [z, f'] at n; cases n)]; exact e) I2 (K1.trans K2 I2)
def forL {R : Type} (T : Tg) (mb : MS R) : List D → MS R
  | [] => fun s => some (.nx, s)
  | d :: ds => fun s => (bindT T d s.e).bind fun e' => (mb { s with e := e' }).bind fun p => match p.1 with
    | .nx => forL T mb ds p.2
    | .ct => forL T mb ds p.2
    | .bk => some (.nx, p.2)
    | .rt v => some (.rt v, p.2)
def mFor {R : Type} (mi : M R (List D)) (T : Tg) (mb : MS R) : MS R := fun s => (mi s).bind fun p => forL T mb p.1 p.2
theorem Keep.pres {F1 F2 H1 H2 : Hp} {s1 s2 : S g.R.S} {σ1 σ2 : St} (I1 : Sim g F1 s1 σ1 H1) (K : Keep g F1 s1 σ1 H1 F2 s2 σ2 H2) : ∀ a u o, F1 a = some u → H1 a = some o → H2 a = some o := fun a u o e1 e2 =>
  K.heap a o e2 (fun z => by rw [(I1.own_at z).1] at e1; cases e1) (fun z => by rw [I1.foot a z] at e1; cases e1)
theorem XOk.heap {F : Hp} {σ0 : St} {e0 : List (Option Cell)} {H0 H H2 : Hp} {res : Vr} {v : V} (h : XOk g F σ0 e0 H0 H res v) (k : ∀ a x, F a = none → H a = some x → H2 a = some x) : XOk g F σ0 e0 H0 H2 res v := by
  cases res with
  | sh d => exact h
  | sl i => exact h
  | tmp d =>
    obtain ⟨p, o, r1, r2, r3, r4, r5, r6⟩ := h
    exact ⟨p, o, r1, r2, r3, r4, k _ _ r3 r5, r6⟩
theorem XOk.lock {F F1 H1 HL H : Hp} {σ0 : St} {e0 : List (Option Cell)} {res : Vr} {v : V} (l : Locked X F1 H1 HL) (h : XOk g F σ0 e0 HL H res v) : XOk g F σ0 e0 H1 H res v := by
  cases res with
  | sh d => exact h
  | sl i => exact h
  | tmp d =>
    obtain ⟨p, o, r1, r2, r⟩ := h
    refine ⟨p, o, r1, ?_, r⟩
    rcases r2 with r2 | r2
    · exact .inl r2
    · right
      rcases l with rfl | ⟨d, u, od, h1, h2, h3, rfl, _⟩
      · exact r2
      · by_cases z : p = d
        · subst z; rw [upd_same] at r2; cases r2
        · rw [upd_ne z] at r2; exact r2
theorem s_for {tg iter : Expr} {body : List Stmt} {mi : M g.R.S (List D)} {T : Tg} {mb : MS g.R.S} {pos : Pos} (hp : PassesOwn (model X.prog X.w) X.A X.env X.xe) (hc : X.calm = true) (hi : DI g X tg iter mi) (hg : PG X tg (tG g T)) (hb : DB g X body mb)
    (hs : ∀ x, foldedSetIterable iter X.env x = pure x := by intro _; rfl) : DS g X (.For tg iter body [] pos) (mFor mi T mb) := by
  refine PS.imp (ps_un (ps_for hp hc hi hg hb hs)) fun E σ H ⟨F, s, fl, sf, I, e, o⟩ => ?_
  unfold mFor at e
  obtain ⟨⟨ds, s1⟩, e1, e⟩ := Option.bind_eq_some_iff.mp e
  refine ⟨F, s, ds, s1, I, e1, fun F1 H1 HL J I1 K1 l it => ?_⟩
  have IL := I1.lock l
  -- the ends, the lock taken off
  have endN : ∀ {F' : Hp} {s' : S g.R.S} {σ' : St} {H' : Hp}, fl = .nx → sf = s' → Sim g F' s' σ' H' → Keep g F1 s1 σ HL F' s' σ' H' → (unE X E).nx σ' H' := fun {F' s' σ' H'} h1 h2 I' K' => by
    subst h1; subst h2
    exact Sim.unlock I1 K1 l I' K' fun H2 _ I2 K2 => o F' σ' H2 I2 K2
  refine ⟨fun i m σ' H' => m = ds.length - i ∧ i ≤ ds.length ∧ ∃ F' s', Sim g F' s' σ' H' ∧ Keep g F1 s1 σ HL F' s' σ' H' ∧ forL T mb (ds.drop i) s' = some (fl, sf), ⟨_, rfl, Nat.zero_le _, F1, s1, IL, Keep.refl, by simpa using e⟩, ?_⟩
  rintro i m σ2 H2 ⟨rfl, hi, F2, s2, I2, K2, e2⟩
  have pr := Keep.pres IL K2
  by_cases hlt : i < ds.length
  · have hd : ds[i]? = some ds[i] := List.getElem?_eq_getElem hlt
    obtain ⟨go, yl⟩ := it.go F2 H2 K2.grow I2.sub pr i _ hd
    rw [List.drop_eq_getElem_cons hlt] at e2
    unfold forL at e2
    obtain ⟨e', e3, e2⟩ := Option.bind_eq_some_iff.mp e2
    obtain ⟨⟨f, s3⟩, e4, e2⟩ := Option.bind_eq_some_iff.mp e2
    refine .inr ⟨go, fun σ' H' => ∃ F' s', (f = .nx ∨ f = .ct) ∧ s3 = s' ∧ Sim g F' s' σ' H' ∧ Keep g F1 s1 σ HL F' s' σ' H', fun σ' H' ⟨F', s', hf, hs, I', K'⟩ => ?_, fun x H3 hy => ?_⟩
    · refine ⟨ds.length - (i + 1), by omega, rfl, hlt, F', s', I', K', ?_⟩
      subst hs
      rcases hf with rfl | rfl <;> exact e2
    · obtain ⟨F3, x3, r3⟩ := yl x H3 hy
      have I3 := I2.ext x3
      have K3 := K2.trans (Keep.ext x3) I3
      refine ⟨F3, s2, _, e', I3, r3, e3, fun σ4 I4 ow _ => ⟨F3, _, f, s3, I4, e4, ?_⟩⟩
      have K4 := K3.bind ow
      cases f with
      | nx => exact fun F' σ' H' I' K' => ⟨F', s3, .inl rfl, rfl, I', K4.trans K' I'⟩
      | ct => exact fun F' σ' H' I' K' => ⟨F', s3, .inr rfl, rfl, I', K4.trans K' I'⟩
      | bk =>
        have e2 : some (Fl.nx, s3) = some (fl, sf) := e2
        cases e2
        exact fun F' σ' H' I' K' => endN rfl rfl I' (K4.trans K' I')
      | rt res =>
        have e2 : some (Fl.rt res, s3) = some (fl, sf) := e2
        cases e2
        intro F' σ' v H' I' K' w
        have K5 := K4.trans K' I'
        have w' := XOk.lock l (XOk.base K4 w)
        exact Sim.unlock I1 K1 l I' K5 fun H2 hk I2 K2 => o F' σ' v H2 I2 K2 ((w'.heap hk).base K1)
  · have e' : i = ds.length := by omega
    subst e'
    rw [List.drop_length] at e2
    cases e2
    exact .inl ⟨it.stop F2 H2 K2.grow I2.sub pr, endN rfl rfl I2 K2⟩
end
end RW
namespace RW
open PySem L2
section
variable {g : G} {X : Cx}
/-! ### while -/
def whL {R : Type} (mc : M R Vr) (mb : MS R) : Nat → MS R
  | 0 => fun _ => none
  | n + 1 => fun s => (mc s).bind fun p => match p.1 with
    | .sh (.bl true) => (mb p.2).bind fun q => (match q.1 with
      | .nx => whL mc mb n q.2
      | .ct => whL mc mb n q.2
      | .bk => some (.nx, q.2)
      | .rt v => some (.rt v, q.2))
    | .sh (.bl false) => some (.nx, p.2)
    | _ => none
@[irreducible] def wfuel : Nat := 1000000
def mWhile {R : Type} (mc : M R Vr) (mb : MS R) : MS R := whL mc mb wfuel
theorem whL_inv {mc : M g.R.S Vr} {mb : MS g.R.S} {n : Nat} {s : S g.R.S} {x : Fl × S g.R.S} (e : whL mc mb (n + 1) s = some x) : ∃ b s', mc s = some (.sh (.bl b), s') ∧ (if b = true then ((mb s').bind fun q => (match q.1 with
      | .nx => whL mc mb n q.2
      | .ct => whL mc mb n q.2
      | .bk => some (.nx, q.2)
      | .rt v => some (.rt v, q.2))) = some x else (Fl.nx, s') = x) := by
  obtain ⟨b, s', e1, e2⟩ := first_bl (F := fun v s' => match v with
    | .sh (.bl true) => (mb s').bind fun q => (match q.1 with
      | .nx => whL mc mb n q.2
      | .ct => whL mc mb n q.2
      | .bk => some (Fl.nx, q.2)
      | .rt v => some (.rt v, q.2))
    | .sh (.bl false) => some (.nx, s')
    | _ => none) (ma := mc) (s := s) (x := x) e (fun v s' h => by
      cases v with
      | sh d => cases d with
        | bl b => exact ⟨b, rfl⟩
        | _ => cases h
      | _ => cases h)
  refine ⟨b, s', e1, ?_⟩
  cases b with
  | true => exact e2
  | false => exact Option.some.inj e2
theorem s_while {c : Expr} {body : List Stmt} {mc : M g.R.S Vr} {mb : MS g.R.S} {pos : Pos} (hp : PassesOwn (model X.prog X.w) X.A X.env X.xe) (hc : DT g X c mc) (hb : DB g X body mb) : DS g X (.While c body [] pos) (mWhile mc mb) := by
  refine PS.imp (ps_while hp hc hb) fun E σ H ⟨F, s, fl, sf, I, e, o⟩ => ?_
  refine ⟨fun m σ' H' => ∃ F' s', Sim g F' s' σ' H' ∧ Keep g F s σ H F' s' σ' H' ∧ whL mc mb m s' = some (fl, sf), ⟨wfuel, F, s, I, Keep.refl, e⟩, ?_⟩
  rintro m σ1 H1 ⟨F1, s1, I1, K1, e1⟩
  cases m with
  | zero => cases e1
  | succ n =>
    obtain ⟨b, s2, e2, e3⟩ := whL_inv e1
    refine ⟨F1, s1, b, s2, I1, e2, fun F2 H2 I2 K2 => ?_⟩
    have K12 := K1.trans K2 I2
    cases b with
    | false =>
      rw [if_neg Bool.false_ne_true] at e3
      cases e3
      exact iteF (o F2 σ1 H2 I2 K12)
    | true =>
      rw [if_pos rfl] at e3
      obtain ⟨⟨f, s3⟩, e4, e5⟩ := Option.bind_eq_some_iff.mp e3
      refine iteT ?_
      refine ⟨fun σ' H' => ∃ F' s', (f = .nx ∨ f = .ct) ∧ s3 = s' ∧ Sim g F' s' σ' H' ∧ Keep g F s σ H F' s' σ' H', fun σ' H' ⟨F', s', hf, hs, I', K'⟩ => ?_, F2, s2, f, s3, I2, e4, ?_⟩
      · subst hs
        refine ⟨n, Nat.lt_succ_self n, F', s3, I', K', ?_⟩
        rcases hf with rfl | rfl <;> exact e5
      · cases f with
        | nx => exact fun F' σ' H' I' K' => ⟨F', s3, .inl rfl, rfl, I', K12.trans K' I'⟩
        | ct => exact fun F' σ' H' I' K' => ⟨F', s3, .inr rfl, rfl, I', K12.trans K' I'⟩
        | bk =>
          have e5 : some (Fl.nx, s3) = some (fl, sf) := e5
          cases e5
          exact fun F' σ' H' I' K' => o F' σ' H' I' (K12.trans K' I')
        | rt res =>
          have e5 : some (Fl.rt res, s3) = some (fl, sf) := e5
          cases e5
          exact fun F' σ' v H' I' K' w => o F' σ' v H' I' (K12.trans K' I') (w.base K12)
/-! ### iterators -/
theorem RepAll.get {F : Hp} : ∀ {xs : List V} {ds : List D} {i : Nat} {d : D}, RepAll g F xs ds → ds[i]? = some d → ∃ x, xs[i]? = some x ∧ Rep g F x d
  | _, _, _, _, .nil, e => by cases e
  | _, _, 0, _, .cons h _, e => by cases e; exact ⟨_, rfl, h⟩
  | _, _, i + 1, _, .cons _ t, e => by
    obtain ⟨x, h1, h2⟩ := RepAll.get (i := i) t (by simpa using e)
    exact ⟨x, by simpa using h1, h2⟩
theorem Sub.at_ {F H : Hp} (h : Sub F H) {a : Addr} {o : HO} (e : F a = some o) (n : ¬ IsDict o) : H a = some o := by
  rcases h a o e with z | ⟨z, _⟩
  · exact z
  · exact (n z).elim
theorem nd_lst {xs : List V} : ¬ IsDict (.lst xs) := fun z => by rcases z with ⟨_, z⟩ | ⟨_, z⟩ <;> cases z
theorem nd_tup {xs : List V} : ¬ IsDict (.tup xs) := fun z => by rcases z with ⟨_, z⟩ | ⟨_, z⟩ <;> cases z
/-- a tuple that is read in F -/
def TupIn (g : G) (F : Hp) (a : Addr) (xs : List V) : Prop := F a = some (.tup xs) ∨ KTup g.K a xs
theorem TupIn.sq {F H : Hp} {a : Addr} {xs : List V} (h : TupIn g F a xs) (s : Sub F H) : SqT g.K H a xs := by
  rcases h with h | h
  · exact SqT.of (s.at_ h nd_tup)
  · exact .inr h
theorem TupIn.mono {F F' : Hp} {a : Addr} {xs : List V} (h : TupIn g F a xs) (le : Le F F') : TupIn g F' a xs := h.elim (fun h => .inl (le _ _ h)) .inr
theorem Rep.tupIn {F : Hp} {v : V} {ds : List D} (h : Rep g F v (.tup ds)) : ∃ a xs, v = .ref a ∧ TupIn g F a xs ∧ RepAll g F xs ds := by
  cases h with
  | ref _ q => cases q
  | tup e q => exact ⟨_, _, rfl, .inl e, q⟩
  | kt e q _ => exact ⟨_, _, rfl, .inr e, q⟩
theorem Rep.lstIn {F : Hp} {v : V} {ds : List D} (h : Rep g F v (.lst ds)) : ∃ a xs, v = .ref a ∧ F a = some (.lst xs) ∧ RepAll g F xs ds := by
  cases h with
  | ref e q => cases q with
    | lst q => exact ⟨_, _, rfl, e, q⟩
theorem Rep.dKIn {F : Hp} {v : V} {es : List (D × D)} (h : Rep g F v (.dct false es)) : ∃ a kvs, v = .ref a ∧ F a = some (.dK kvs) ∧ RepK g F kvs es := by
  cases h with
  | ref e q => cases q with
    | dK q => exact ⟨_, _, rfl, e, q⟩
theorem Rep.dTIn {F : Hp} {v : V} {es : List (D × D)} (h : Rep g F v (.dct true es)) : ∃ a kvs, v = .ref a ∧ F a = some (.dT kvs) ∧ RepT g F kvs es := by
  cases h with
  | ref e q => cases q with
    | dT q => exact ⟨_, _, rfl, e, q⟩
theorem it_list {F H : Hp} {a : Addr} {xs : List V} {ds : List D} (e : F a = some (.lst xs)) (r : RepAll g F xs ds) : IterOk g F H (Itl g.K a) ds := by
  refine ⟨fun F2 H2 le s _ i d hd => ?_, fun F2 H2 le s _ => ⟨xs, SqL.of (s.at_ (le _ _ e) nd_lst), by rw [r.length]; exact Nat.le_refl _⟩⟩
  have h2 : H2 a = some (.lst xs) := s.at_ (le _ _ e) nd_lst
  obtain ⟨x, h3, h4⟩ := r.get hd
  refine ⟨⟨xs, x, SqL.of h2, h3⟩, fun y H3 ⟨eq, hy⟩ => ?_⟩
  subst eq
  have := hy xs (SqL.of h2)
  rw [h3] at this; cases this
  exact ⟨F2, Ext.refl s, h4.mono le⟩
theorem it_scr {F H : Hp} {a : Addr} {ns : List Int} (e : ∀ F2 H2, Le F F2 → Sub F2 H2 → SqL g.K H2 a (ns.map V.int)) : IterOk g F H (Itl g.K a) (ns.map .int) := by
  refine ⟨fun F2 H2 le s _ i d hd => ?_, fun F2 H2 le s _ => ⟨ns.map V.int, e F2 H2 le s, by simp⟩⟩
  have h2 := e F2 H2 le s
  rw [List.getElem?_map] at hd
  obtain ⟨n, hn, rfl⟩ := Option.map_eq_some_iff.mp hd
  have h3 : (ns.map V.int)[i]? = some (.int n) := by rw [List.getElem?_map, hn]; rfl
  refine ⟨⟨ns.map V.int, .int n, h2, h3⟩, fun y H3 ⟨eq, hy⟩ => ?_⟩
  subst eq
  have := hy _ h2
  rw [h3] at this; cases this
  exact ⟨F2, Ext.refl s, .int n⟩
theorem Rep.scrIn {F : Hp} {v : V} {ns : List Int} (h : Rep g F v (.scr ns)) : ∃ a, v = .ref a ∧ ∀ F2 H2, Le F F2 → Sub F2 H2 → SqL g.K H2 a (ns.map V.int) := by
  cases h with
  | kscr q => exact ⟨_, rfl, fun _ H2 _ _ => q H2⟩
  | ref e q =>
    cases q with
    | scr =>
      refine ⟨_, rfl, fun F2 H2 le s => ?_⟩
      rcases s _ _ (le _ _ e) with z | ⟨z, _⟩
      · exact .inl (.inr ⟨_, z⟩)
      · rcases z with ⟨_, z⟩ | ⟨_, z⟩ <;> cases z
theorem it_tup {F H : Hp} {a : Addr} {xs : List V} {ds : List D} (e : TupIn g F a xs) (r : RepAll g F xs ds) : IterOk g F H (Itt g.K a) ds := by
  refine ⟨fun F2 H2 le s _ i d hd => ?_, fun F2 H2 le s _ => ⟨xs, (e.mono le).sq s, by rw [r.length]; exact Nat.le_refl _⟩⟩
  have h2 := (e.mono le).sq s
  obtain ⟨x, h3, h4⟩ := r.get hd
  refine ⟨⟨xs, x, h2, h3⟩, fun y H3 ⟨eq, hy⟩ => ?_⟩
  subst eq
  have := hy xs h2
  rw [h3] at this; cases this
  exact ⟨F2, Ext.refl s, h4.mono le⟩
theorem RepK.get {F : Hp} : ∀ {kvs : List (Key × V)} {es : List (D × D)} {i : Nat} {p : D × D}, RepK g F kvs es → es[i]? = some p → ∃ k v, kvs[i]? = some (k, v) ∧ p.1 = keyD k ∧ Rep g F v p.2
  | _, _, _, _, .nil, e => by cases e
  | _, _, 0, _, .cons h _, e => by cases e; exact ⟨_, _, rfl, rfl, h⟩
  | _, _, i + 1, _, .cons _ t, e => by
    obtain ⟨k, x, h1, h2⟩ := RepK.get (i := i) t (by simpa using e)
    exact ⟨k, x, by simpa using h1, h2⟩
theorem RepK.length {F : Hp} : ∀ {kvs : List (Key × V)} {es : List (D × D)}, RepK g F kvs es → kvs.length = es.length
  | _, _, .nil => rfl
  | _, _, .cons _ t => by simp [RepK.length t]
theorem RepT.get {F : Hp} : ∀ {kvs : List (List Key × V)} {es : List (D × D)} {i : Nat} {p : D × D}, RepT g F kvs es → es[i]? = some p → ∃ k v, kvs[i]? = some (k, v) ∧ p.1 = .tup (k.map keyD) ∧ Rep g F v p.2
  | _, _, _, _, .nil, e => by cases e
  | _, _, 0, _, .cons h _, e => by cases e; exact ⟨_, _, rfl, rfl, h⟩
  | _, _, i + 1, _, .cons _ t, e => by
    obtain ⟨k, x, h1, h2⟩ := RepT.get (i := i) t (by simpa using e)
    exact ⟨k, x, by simpa using h1, h2⟩
theorem RepT.length {F : Hp} : ∀ {kvs : List (List Key × V)} {es : List (D × D)}, RepT g F kvs es → kvs.length = es.length
  | _, _, .nil => rfl
  | _, _, .cons _ t => by simp [RepT.length t]
theorem rep_key {F : Hp} : ∀ k : Key, Rep g F (kV k) (keyD k)
  | .inl _ => .int _
  | .inr _ => .str _
theorem rep_keys {F : Hp} : ∀ ks : List Key, RepAll g F (ks.map kV) (ks.map keyD)
  | [] => .nil
  | k :: ks => .cons (rep_key k) (rep_keys ks)
/-- a tuple that stands in the heap may be kept -/
theorem Ext.keepTup {F H : Hp} (s : Sub F H) {q : Addr} {xs : List V} (e : H q = some (.tup xs)) : ∃ F', Ext F H F' H ∧ F' q = some (.tup xs) := by
  cases h : F q with
  | some o =>
    refine ⟨F, Ext.refl s, ?_⟩
    rcases s q o h with z | ⟨z, ob, y⟩
    · rw [e] at z; cases z; exact h
    · rw [e] at y; cases y
  | none =>
    refine ⟨upd F q (.tup xs), ⟨upd_le h, fun _ _ h => h, fun a o h1 nt h2 => ?_, fun a o h1 => ?_⟩, upd_same⟩
    · rw [upd_ne (fun z => by rw [z, e] at h1; cases h1; exact nt _ rfl)]; exact h2
    · by_cases z : a = q
      · subst z; rw [upd_same] at h1; cases h1; exact .inl e
      · rw [upd_ne z] at h1; exact s a o h1
theorem it_keys {F H : Hp} {a : Addr} {od : Obj} {kvs : List (Key × V)} {es : List (D × D)} (e : F a = some (.dK kvs)) (hl : H a = some (.frz od (.dK kvs))) (r : RepK g F kvs es) : IterOk g F H (Itk a od kvs) (es.map (·.1)) := by
  refine ⟨fun F2 H2 le s pr i d hd => ?_, fun F2 H2 le s pr => ⟨pr _ _ _ e hl, by rw [r.length, List.length_map]; exact Nat.le_refl _⟩⟩
  rw [List.getElem?_map] at hd
  obtain ⟨p, hp, rfl⟩ := Option.map_eq_some_iff.mp hd
  obtain ⟨k, v, h1, h2, h3⟩ := r.get hp
  refine ⟨⟨pr _ _ _ e hl, (List.getElem?_eq_some_iff.mp h1).1⟩, fun y H3 ⟨eq, k', v', h4, h5⟩ => ?_⟩
  subst eq
  rw [h1] at h4; cases h4
  refine ⟨F2, Ext.refl s, ?_⟩
  rw [h5, h2]
  exact rep_key k
theorem it_keysT {F H : Hp} {a : Addr} {od : Obj} {kvs : List (List Key × V)} {es : List (D × D)} (e : F a = some (.dT kvs)) (hl : H a = some (.frz od (.dT kvs))) (r : RepT g F kvs es) : IterOk g F H (Itkt a od kvs) (es.map (·.1)) := by
  refine ⟨fun F2 H2 le s pr i d hd => ?_, fun F2 H2 le s pr => ⟨pr _ _ _ e hl, by rw [r.length, List.length_map]; exact Nat.le_refl _⟩⟩
  rw [List.getElem?_map] at hd
  obtain ⟨p, hp, rfl⟩ := Option.map_eq_some_iff.mp hd
  obtain ⟨k, v, h1, h2, h3⟩ := r.get hp
  refine ⟨⟨pr _ _ _ e hl, (List.getElem?_eq_some_iff.mp h1).1⟩, fun y H3 ⟨eq, k', v', q, h4, h5, h6⟩ => ?_⟩
  subst eq
  rw [h1] at h4; cases h4
  obtain ⟨F3, x3, h7⟩ := Ext.keepTup s h6
  refine ⟨F3, x3, ?_⟩
  rw [h5, h2]
  exact .tup h7 (rep_keys k)
theorem it_vals {F H : Hp} {a : Addr} {od : Obj} {kvs : List (Key × V)} {es : List (D × D)} (e : F a = some (.dK kvs)) (hl : H a = some (.frz od (.dK kvs))) (r : RepK g F kvs es) : IterOk g F H (Itd a od kvs) (es.map (·.2)) := by
  refine ⟨fun F2 H2 le s pr i d hd => ?_, fun F2 H2 le s pr => ⟨pr _ _ _ e hl, by rw [r.length, List.length_map]; exact Nat.le_refl _⟩⟩
  rw [List.getElem?_map] at hd
  obtain ⟨p, hp, rfl⟩ := Option.map_eq_some_iff.mp hd
  obtain ⟨k, v, h1, h2, h3⟩ := r.get hp
  refine ⟨⟨pr _ _ _ e hl, (List.getElem?_eq_some_iff.mp h1).1⟩, fun y H3 ⟨eq, k', h4⟩ => ?_⟩
  subst eq
  rw [h1] at h4; cases h4
  exact ⟨F2, Ext.refl s, h3.mono le⟩
theorem it_items {F H : Hp} {a : Addr} {od : Obj} {kvs : List (Key × V)} {es : List (D × D)} (e : F a = some (.dK kvs)) (hl : H a = some (.frz od (.dK kvs))) (r : RepK g F kvs es) : IterOk g F H (Iti a od kvs) (es.map fun p => .tup [p.1, p.2]) := by
  refine ⟨fun F2 H2 le s pr i d hd => ?_, fun F2 H2 le s pr => ⟨pr _ _ _ e hl, by rw [r.length, List.length_map]; exact Nat.le_refl _⟩⟩
  rw [List.getElem?_map] at hd
  obtain ⟨p, hp, rfl⟩ := Option.map_eq_some_iff.mp hd
  obtain ⟨k, v, h1, h2, h3⟩ := r.get hp
  refine ⟨⟨pr _ _ _ e hl, (List.getElem?_eq_some_iff.mp h1).1⟩, fun y H3 ⟨T, k', v', h4, h5, h6, h7⟩ => ?_⟩
  rw [h1] at h4; cases h4
  subst h7
  have x : Ext F2 H2 (upd F2 T (.tup [kV k, v])) (upd H2 T (.tup [kV k, v])) := Ext.new s h6
  refine ⟨_, x, ?_⟩
  rw [h5, h2]
  exact .tup upd_same (.cons (rep_key k) (.cons (h3.mono (le.trans x.le)) .nil))
theorem it_str {F H : Hp} {x : Str} : IterOk g F H (Its x) (x.cps.toList.map fun c => .str ⟨#[c]⟩) := by
  refine ⟨fun F2 H2 le s pr i d hd => ?_, fun F2 H2 le s pr => by simp [Its]⟩
  rw [List.getElem?_map] at hd
  obtain ⟨c, hc, rfl⟩ := Option.map_eq_some_iff.mp hd
  have hi : i < x.cps.size := by
    have := (List.getElem?_eq_some_iff.mp hc).1
    simpa using this
  refine ⟨hi, fun y H3 ⟨eq, c', h1, h2⟩ => ?_⟩
  subst eq
  refine ⟨F2, Ext.refl s, ?_⟩
  have : some c = some c' := by rw [← hc, ← h1]; simp
  cases this
  rw [h2]
  exact .str _
theorem it_range {F H : Hp} {lo : Int} {n : Nat} : IterOk g F H (Itr lo n) ((List.range n).map fun (i : Nat) => D.int (lo + i)) := by
  refine ⟨fun F2 H2 le s pr i d hd => ?_, fun F2 H2 le s pr => by simp [Itr]⟩
  rw [List.getElem?_map] at hd
  obtain ⟨j, hj, rfl⟩ := Option.map_eq_some_iff.mp hd
  have hi : i < n := by
    have := (List.getElem?_eq_some_iff.mp hj).1
    simpa using this
  have hji : j = i := by
    rw [List.getElem?_range hi] at hj
    exact (Option.some.inj hj).symm
  subst hji
  refine ⟨hi, fun y H3 ⟨eq, h1⟩ => ?_⟩
  subst eq
  refine ⟨F2, Ext.refl s, ?_⟩
  rw [h1]
  exact .int _
/-! the same by expressions -/
theorem pe_lk {e : Expr} {t : TE} (h : PE X e t) : PE X e (fun σ H Q => t σ H fun v H1 => Q v H1 ∨ ∃ d u, H1 d = some u ∧ Mut (some u) ∧ ∀ od, (∀ o' u', X.H_0 d ≠ some (.frz o' u')) → Q v (upd H1 d (.frz od u))) := by
  refine ⟨fun pins s σ H Q I hw => thn (h.run pins s σ H _ I hw) fun v s1 ⟨x, H1, I2, r, q⟩ => ?_⟩
  rcases q with q | ⟨d, u, hd, mu, q⟩
  · exact ⟨x, H1, I2, r, q⟩
  · obtain ⟨od, I3⟩ := I2.lock hd mu
    exact ⟨x, _, I3, r, q od (I2.nofrz hd mu)⟩
def mIt {R : Type} (f : D → Option (List D)) (ma : M R Vr) : M R (List D) := fun s => (ma s).bind fun p => (esc (soft p.1) p.2).bind fun q => (f q.1).map fun ds => (ds, q.2)
theorem mIt_inv {f : D → Option (List D)} {ma : M g.R.S Vr} {s s' : S g.R.S} {ds : List D} (e : mIt f ma s = some (ds, s')) : ∃ r s1 d, ma s = some (r, s1) ∧ esc (soft r) s1 = some (d, s') ∧ f d = some ds := by
  unfold mIt at e
  obtain ⟨p, e1, e⟩ := Option.bind_eq_some_iff.mp e
  obtain ⟨q, e2, e⟩ := Option.bind_eq_some_iff.mp e
  obtain ⟨z, e3, e⟩ := Option.map_eq_some_iff.mp e
  cases e
  exact ⟨p.1, p.2, q.1, e1, e2, e3⟩
/-- the value of what is walked, kept -/
theorem tM_esc {ma : M g.R.S Vr} {σ : St} {H : Hp} {Q : VK} {F : Hp} {s s1 s' : S g.R.S} {r : Vr} {d : D} (I : Sim g F s σ H) (e1 : ma s = some (r, s1)) (e2 : esc (soft r) s1 = some (d, s'))
    (k : ∀ F' v H', Sim g F' s' σ H' → Keep g F s σ H F' s' σ H' → Rep g F' v d → Q v H') : tM g ma σ H Q := by
  refine tM_soft I e1 fun F1 v H1 I1 K1 w => ?_
  obtain ⟨F2, I2, K2, r2⟩ := esc_ok I1 w e2
  exact k F2 v H1 I2 (K1.trans K2 I2) r2
def itemsOf : D → Option (List D)
  | .lst ds => some ds
  | .tup ds => some ds
  | .str x => some (x.cps.toList.map fun c => .str ⟨#[c]⟩)
  | .dct _ es => some (es.map (·.1))
  | .scr ns => some (ns.map .int)
  | _ => none
theorem i_any {tg e : Expr} {ma : M g.R.S Vr} {k : Nat} (o : XO g k X) (he : DE g X e ma) : DI g X tg e (mIt itemsOf ma) := by
  refine PI.imp (PI.or (PI.or (pi_list he) (pi_tup he)) (PI.or (pi_str he) (pi_keys (pe_lk he)))) fun σ H R ⟨F, s, ds, s', I, e, k⟩ => ?_
  obtain ⟨r, s1, d, e1, e2, e3⟩ := mIt_inv e
  cases d with
  | lst xs =>
    cases e3
    refine .inl (.inl (tM_esc I e1 e2 fun F1 v H1 I1 K1 r1 => ?_))
    obtain ⟨a, vs, rfl, h1, h2⟩ := r1.lstIn
    refine ⟨a, rfl, ⟨vs, SqL.of (I1.sub.at_ h1 nd_lst)⟩, ?_⟩
    rw [o.K]
    exact k F1 H1 H1 _ I1 K1 (.inl rfl) (it_list h1 h2)
  | scr ns =>
    cases e3
    refine .inl (.inl (tM_esc I e1 e2 fun F1 v H1 I1 K1 r1 => ?_))
    obtain ⟨a, rfl, h1⟩ := r1.scrIn
    refine ⟨a, rfl, ⟨_, by rw [o.K]; exact h1 F1 H1 (Le.refl _) I1.sub⟩, ?_⟩
    rw [o.K]
    exact k F1 H1 H1 _ I1 K1 (.inl rfl) (it_scr h1)
  | tup xs =>
    cases e3
    refine .inl (.inr (tM_esc I e1 e2 fun F1 v H1 I1 K1 r1 => ?_))
    obtain ⟨a, vs, rfl, h1, h2⟩ := r1.tupIn
    refine ⟨a, rfl, ⟨vs, by rw [o.K]; exact h1.sq I1.sub⟩, ?_⟩
    rw [o.K]
    exact k F1 H1 H1 _ I1 K1 (.inl rfl) (it_tup h1 h2)
  | str x =>
    cases e3
    refine .inr (.inl (tM_esc I e1 e2 fun F1 v H1 I1 K1 r1 => ?_))
    obtain rfl := Pk.str (H := H1) (.inl r1)
    exact ⟨x, rfl, k F1 H1 H1 _ I1 K1 (.inl rfl) it_str⟩
  | dct t es =>
    cases e3
    refine .inr (.inr (tM_esc I e1 e2 fun F1 v H1 I1 K1 r1 => ?_))
    cases t with
    | false =>
      obtain ⟨a, kvs, rfl, h1, h2⟩ := r1.dKIn
      rcases I1.sub a _ h1 with z | ⟨_, ob, z⟩
      · refine .inr ⟨a, _, z, trivial, fun od hn => ⟨a, od, rfl, .inl ⟨kvs, upd_same, ?_⟩⟩⟩
        exact k F1 H1 _ _ I1 K1 (.inr ⟨a, _, od, h1, .inl ⟨_, rfl⟩, z, rfl, hn⟩) (it_keys h1 upd_same h2)
      · exact .inl ⟨a, ob, rfl, .inl ⟨kvs, z, k F1 H1 H1 _ I1 K1 (.inl rfl) (it_keys h1 z h2)⟩⟩
    | true =>
      obtain ⟨a, kvs, rfl, h1, h2⟩ := r1.dTIn
      rcases I1.sub a _ h1 with z | ⟨_, ob, z⟩
      · refine .inr ⟨a, _, z, trivial, fun od hn => ⟨a, od, rfl, .inr ⟨kvs, upd_same, ?_⟩⟩⟩
        exact k F1 H1 _ _ I1 K1 (.inr ⟨a, _, od, h1, .inr ⟨_, rfl⟩, z, rfl, hn⟩) (it_keysT h1 upd_same h2)
      · exact .inl ⟨a, ob, rfl, .inr ⟨kvs, z, k F1 H1 H1 _ I1 K1 (.inl rfl) (it_keysT h1 z h2)⟩⟩
  | _ => cases e3
def valsOf : D → Option (List D)
  | .dct false es => some (es.map (·.2))
  | _ => none
def pairsOf : D → Option (List D)
  | .dct false es => some (es.map fun p => .tup [p.1, p.2])
  | _ => none
theorem i_vals {tg e : Expr} {ma : M g.R.S Vr} {apos cpos : Pos} (he : DE g X e ma) (hbase : attributeBase e "values" X.env (eval e X.env) = eval e X.env := by rfl) (hline : (apos.endLine == cpos.line) = true := by rfl) : DI g X tg (.Call (.Attribute e "values" apos) [] [] cpos) (mIt valsOf ma) := by
  refine PI.imp (pi_values (pe_lk he) hbase hline) fun σ H R ⟨F, s, ds, s', I, e, k⟩ => ?_
  obtain ⟨r, s1, d, e1, e2, e3⟩ := mIt_inv e
  cases d with
  | dct t es =>
    cases t with
    | true => cases e3
    | false =>
      cases e3
      refine tM_esc I e1 e2 fun F1 v H1 I1 K1 r1 => ?_
      obtain ⟨a, kvs, rfl, h1, h2⟩ := r1.dKIn
      rcases I1.sub a _ h1 with z | ⟨_, ob, z⟩
      · refine .inr ⟨a, _, z, trivial, fun od hn => ⟨a, od, kvs, rfl, upd_same, ?_⟩⟩
        exact k F1 H1 _ _ I1 K1 (.inr ⟨a, _, od, h1, .inl ⟨_, rfl⟩, z, rfl, hn⟩) (it_vals h1 upd_same h2)
      · exact .inl ⟨a, ob, kvs, rfl, z, k F1 H1 H1 _ I1 K1 (.inl rfl) (it_vals h1 z h2)⟩
  | _ => cases e3
theorem i_items {elts : List Expr} {kk : Nat} {tpos : Pos} {e : Expr} {ma : M g.R.S Vr} {apos cpos : Pos} (he : DE g X e ma) (hbase : attributeBase e "items" X.env (eval e X.env) = eval e X.env := by rfl) (hline : (apos.endLine == cpos.line) = true := by rfl) : DI g X (.Tuple elts kk tpos) (.Call (.Attribute e "items" apos) [] [] cpos) (mIt pairsOf ma) := by
  refine PI.imp (pi_items (pe_lk he) hbase hline) fun σ H R ⟨F, s, ds, s', I, e, k⟩ => ?_
  obtain ⟨r, s1, d, e1, e2, e3⟩ := mIt_inv e
  cases d with
  | dct t es =>
    cases t with
    | true => cases e3
    | false =>
      cases e3
      refine tM_esc I e1 e2 fun F1 v H1 I1 K1 r1 => ?_
      obtain ⟨a, kvs, rfl, h1, h2⟩ := r1.dKIn
      rcases I1.sub a _ h1 with z | ⟨_, ob, z⟩
      · refine .inr ⟨a, _, z, trivial, fun od hn => ⟨a, od, kvs, rfl, upd_same, ?_⟩⟩
        exact k F1 H1 _ _ I1 K1 (.inr ⟨a, _, od, h1, .inl ⟨_, rfl⟩, z, rfl, hn⟩) (it_items h1 upd_same h2)
      · exact .inl ⟨a, ob, kvs, rfl, z, k F1 H1 H1 _ I1 K1 (.inl rfl) (it_items h1 z h2)⟩
  | _ => cases e3
def rangeOf (n : Nat) (lo : Int) : List D := (List.range n).map fun (i : Nat) => D.int (lo + i)
def mRng1 {R : Type} (ma : M R Vr) : M R (List D) := fun s => (ma s).bind fun p => match p.1 with
  | .sh (.int j) => if j.natAbs ≤ 16777216 then some (rangeOf j.toNat 0, p.2) else none
  | _ => none
theorem i_range1 {tg a : Expr} {ma : M g.R.S Vr} {p pos : Pos} (hg : Gl X "range") (hm : X.mg "range" = none) (ha : DE g X a ma) (hs : starEach [a] X.env = [(false, eval a X.env)] := by rfl) (hs' : starEach [a] X.env = (false, eval a X.env) :: starEach [] X.env := by rfl) : DI g X tg (.Call (.Name "range" p) [a] [] pos) (mRng1 ma) := by
  refine PI.imp (pi_range1 hg hm (pa_cons ha pa_nil hs') hs) fun σ H R ⟨F, s, ds, s', I, e, k⟩ => ?_
  unfold mRng1 at e
  obtain ⟨⟨r, s1⟩, e1, e⟩ := Option.bind_eq_some_iff.mp e
  cases r with
  | sh d => cases d with
    | int j =>
      replace e : (if j.natAbs ≤ 16777216 then some (rangeOf j.toNat 0, s1) else none) = some (ds, s') := e
      by_cases hb : j.natAbs ≤ 16777216
      · rw [if_pos hb] at e
        cases e
        refine ⟨F, s, _, _, I, e1, fun F' v H' I' K' r => ?_⟩
        obtain rfl := Pk.int (H := H') (.inl r)
        exact ⟨j, rfl, by omega, by omega, k F' H' H' _ I' K' (.inl rfl) it_range⟩
      · rw [if_neg hb] at e; cases e
    | _ => cases e
  | _ => cases e
def mRng2 {R : Type} (ma mb : M R Vr) : M R (List D) := fun s => (ma s).bind fun p => (mb p.2).bind fun q => match p.1, q.1 with
  | .sh (.int i), .sh (.int j) => if i.natAbs ≤ 16777216 ∧ j.natAbs ≤ 16777216 then some (rangeOf (j - i).toNat i, q.2) else none
  | _, _ => none
theorem i_range2 {tg a b : Expr} {ma mb : M g.R.S Vr} {p pos : Pos} (hg : Gl X "range") (hm : X.mg "range" = none) (ha : DE g X a ma) (hb : DE g X b mb) (hs : starEach [a, b] X.env = [(false, eval a X.env), (false, eval b X.env)] := by rfl) (hs2 : starEach [b] X.env = [(false, eval b X.env)] := by rfl)
    (hs' : starEach [a, b] X.env = (false, eval a X.env) :: starEach [b] X.env := by rfl) (hs2' : starEach [b] X.env = (false, eval b X.env) :: starEach [] X.env := by rfl) : DI g X tg (.Call (.Name "range" p) [a, b] [] pos) (mRng2 ma mb) := by
  refine PI.imp (pi_range2 hg hm (pa_cons ha (pa_cons hb pa_nil hs2') hs') hs hs2) fun σ H R ⟨F, s, ds, s', I, e, k⟩ => ?_
  unfold mRng2 at e
  obtain ⟨⟨r, s1⟩, e1, e⟩ := Option.bind_eq_some_iff.mp e
  obtain ⟨⟨r2, s2⟩, e2, e⟩ := Option.bind_eq_some_iff.mp e
  cases r with
  | sh d => cases d with
    | int i => cases r2 with
      | sh d2 => cases d2 with
        | int j =>
          replace e : (if i.natAbs ≤ 16777216 ∧ j.natAbs ≤ 16777216 then some (rangeOf (j - i).toNat i, s2) else none) = some (ds, s') := e
          by_cases hb : i.natAbs ≤ 16777216 ∧ j.natAbs ≤ 16777216
          · rw [if_pos hb] at e
            cases e
            refine ⟨F, s, _, _, I, e1, fun F' v H' I' K' r => ⟨F', s1, _, _, I', e2, fun F2 v2 H2 I2 K2 r2 => ?_⟩⟩
            obtain rfl := Pk.int (H := H') (.inl r)
            obtain rfl := Pk.int (H := H2) (.inl r2)
            exact ⟨i, j, rfl, ⟨by omega, by omega, by omega, by omega⟩, k F2 H2 H2 _ I2 (K'.trans K2 I2) (.inl rfl) it_range⟩
          · rw [if_neg hb] at e; cases e
        | _ => cases e
      | _ => cases e
    | _ => cases e
  | _ => cases e
/-! enumerate, zip -/
def enumOf (ds : List D) : List D := ds.zipIdx.map fun p => .tup [.int (p.2 : Nat), p.1]
def zipOf (ds es : List D) : List D := (ds.zip es).map fun p => .tup [p.1, p.2]
def enumI : D → Option (List D)
  | .lst ds => some (enumOf ds)
  | _ => none
theorem it_enum {F H : Hp} {a : Addr} {xs : List V} {ds : List D} (e : F a = some (.lst xs)) (r : RepAll g F xs ds) : IterOk g F H (Ite g.K a) (enumOf ds) := by
  refine ⟨fun F2 H2 le s _ i d hd => ?_, fun F2 H2 le s _ => ⟨xs, SqL.of (s.at_ (le _ _ e) nd_lst), by simp [enumOf, r.length]⟩⟩
  have h2 : H2 a = some (.lst xs) := s.at_ (le _ _ e) nd_lst
  unfold enumOf at hd
  rw [List.getElem?_map, List.getElem?_zipIdx] at hd
  obtain ⟨q, hq, rfl⟩ := Option.map_eq_some_iff.mp hd
  obtain ⟨d', hd', rfl⟩ := Option.map_eq_some_iff.mp hq
  obtain ⟨x, h3, h4⟩ := r.get hd'
  refine ⟨⟨xs, x, SqL.of h2, h3⟩, fun y H3 ⟨T, x', h5, h6, h7, h8⟩ => ?_⟩
  have := h8 xs (SqL.of h2)
  rw [h3] at this; cases this
  subst h7
  have x : Ext F2 H2 (upd F2 T (.tup [.int (i : Nat), x])) (upd H2 T (.tup [.int (i : Nat), x])) := Ext.new s h6
  refine ⟨_, x, ?_⟩
  rw [h5]
  refine .tup upd_same (.cons ?_ (.cons (h4.mono (le.trans x.le)) .nil))
  simp only [Nat.zero_add]
  exact .int _
theorem i_enum {e : Expr} {ma : M g.R.S Vr} {p pos tpos : Pos} {elts : List Expr} {kk : Nat} {k : Nat} (o : XO g k X) (hg : Gl X "enumerate") (hm : X.mg "enumerate" = none) (he : DE g X e ma) (hs : starEach [e] X.env = [(false, eval e X.env)] := by rfl) (hs' : starEach [e] X.env = (false, eval e X.env) :: starEach [] X.env := by rfl) :
    DI g X (.Tuple elts kk tpos) (.Call (.Name "enumerate" p) [e] [] pos) (mIt enumI ma) := by
  refine PI.imp (pi_enum hg hm (pa_cons he pa_nil hs') hs) fun σ H R ⟨F, s, ds, s', I, e, k⟩ => ?_
  obtain ⟨r, s1, d, e1, e2, e3⟩ := mIt_inv e
  cases d with
  | lst xs =>
    cases e3
    refine tM_esc I e1 e2 fun F1 v H1 I1 K1 r1 => ?_
    obtain ⟨a, vs, rfl, h1, h2⟩ := r1.lstIn
    refine ⟨a, vs, rfl, SqL.of (I1.sub.at_ h1 nd_lst), ?_⟩
    rw [o.K]
    exact k F1 H1 H1 _ I1 K1 (.inl rfl) (it_enum h1 h2)
  | _ => cases e3
end
end RW
namespace RW
open PySem L2
/-! ### the slots of a comprehension's own names -/
def wipeE (e : List (Option Cell)) : List Nat → List (Option Cell)
  | [] => e
  | v :: vs => (wipeE e vs).set v none
def backE (e0 e : List (Option Cell)) : List Nat → List (Option Cell)
  | [] => e
  | v :: vs => (backE e0 e vs).set v ((e0[v]?).getD none)
def plainAt (e : List (Option Cell)) (vs : List Nat) : Bool := vs.all fun v => match e[v]? with
  | some (some c) => !c.own
  | _ => true
theorem wipeE_length (e : List (Option Cell)) : ∀ vs : List Nat, (wipeE e vs).length = e.length
  | [] => rfl
  | v :: vs => by unfold wipeE; rw [List.length_set, wipeE_length e vs]
theorem backE_length (e0 e : List (Option Cell)) : ∀ vs : List Nat, (backE e0 e vs).length = e.length
  | [] => rfl
  | v :: vs => by unfold backE; rw [List.length_set, backE_length e0 e vs]
theorem wipeE_some {e : List (Option Cell)} {i : Nat} {x : Cell} : ∀ {vs : List Nat}, (wipeE e vs)[i]? = some (some x) → e[i]? = some (some x) ∧ i ∉ vs
  | [], h => ⟨h, by simp⟩
  | v :: vs, h => by
    unfold wipeE at h
    by_cases hi : v = i
    · subst hi
      by_cases hv : v < (wipeE e vs).length
      · rw [List.getElem?_set_self hv] at h; cases h
      · rw [List.getElem?_eq_none (by simpa using hv)] at h; cases h
    · rw [List.getElem?_set_ne hi] at h
      obtain ⟨h1, h2⟩ := wipeE_some h
      exact ⟨h1, by simp only [List.mem_cons, not_or]; exact ⟨fun e => hi e.symm, h2⟩⟩
theorem wipe_out {σ : L2.St} {j : Nat} : ∀ {vs : List Nat}, j ∉ vs → (wipe σ vs)[j]? = σ[j]?
  | [], _ => rfl
  | v :: vs, h => by
    simp only [List.mem_cons, not_or] at h
    unfold wipe
    rw [List.getElem?_set_ne (Ne.symm h.1)]
    exact wipe_out h.2
theorem wipe_in {σ : L2.St} {j : Nat} : ∀ {vs : List Nat}, j ∈ vs → j < σ.length → (wipe σ vs)[j]? = some none
  | v :: vs, h, hl => by
    unfold wipe
    by_cases hj : v = j
    · subst hj
      exact List.getElem?_set_self (by rw [wipe_length]; exact hl)
    · rw [List.getElem?_set_ne hj]
      rcases List.mem_cons.mp h with z | z
      · exact (hj z.symm).elim
      · exact wipe_in z hl
theorem wipe_same {σ σ2 : L2.St} {vs : List Nat} (hl : σ2.length = σ.length) (h : ∀ j, j ∉ vs → σ2[j]? = σ[j]?) : wipe σ2 vs = wipe σ vs := by
  refine List.ext_getElem? fun j => ?_
  by_cases hj : j ∈ vs
  · by_cases hlt : j < σ.length
    · rw [wipe_in hj hlt, wipe_in hj (by rw [hl]; exact hlt)]
    · rw [List.getElem?_eq_none (by rw [wipe_length, hl]; omega), List.getElem?_eq_none (by rw [wipe_length]; omega)]
  · rw [wipe_out hj, wipe_out hj, h j hj]
theorem backE_out {e0 e : List (Option Cell)} {j : Nat} : ∀ {vs : List Nat}, j ∉ vs → (backE e0 e vs)[j]? = e[j]?
  | [], _ => rfl
  | v :: vs, h => by
    simp only [List.mem_cons, not_or] at h
    unfold backE
    rw [List.getElem?_set_ne (Ne.symm h.1)]
    exact backE_out h.2
theorem backE_in {e0 e : List (Option Cell)} {j : Nat} {c : Cell} : ∀ {vs : List Nat}, j ∈ vs → (backE e0 e vs)[j]? = some (some c) → e0[j]? = some (some c)
  | v :: vs, h, hc => by
    unfold backE at hc
    by_cases hj : v = j
    · subst hj
      have hlt : v < (backE e0 e vs).length := by
        have := (List.getElem?_eq_some_iff.mp hc).1
        simpa using this
      rw [List.getElem?_set_self hlt] at hc
      cases q : e0[v]? with
      | none => rw [q] at hc; cases hc
      | some x => rw [q] at hc; cases hc; rfl
    · rw [List.getElem?_set_ne hj] at hc
      rcases List.mem_cons.mp h with z | z
      · exact (hj z.symm).elim
      · exact backE_in z hc
theorem plain_of {e : List (Option Cell)} {vs : List Nat} (h : plainAt e vs = true) {j : Nat} {c : Cell} (hj : j ∈ vs) (hc : e[j]? = some (some c)) : c.own = false := by
  unfold plainAt at h
  have := List.all_eq_true.mp h j hj
  rw [hc] at this
  simpa using this
mutual
theorem bindT_len : ∀ {T : Tg} {d : D} {e e' : List (Option Cell)}, bindT T d e = some e' → e'.length = e.length
  | .nm i, d, e, e', h => by unfold bindT at h; cases h; simp
  | .tp ts, .tup ds, e, e', h => by unfold bindT at h; exact bindTs_len' h
  | .tp ts, .lst ds, e, e', h => by unfold bindT at h; exact bindTs_len' h
  | .tp ts, .non, _, _, h => by unfold bindT at h; cases h
  | .tp ts, .bl _, _, _, h => by unfold bindT at h; cases h
  | .tp ts, .int _, _, _, h => by unfold bindT at h; cases h
  | .tp ts, .str _, _, _, h => by unfold bindT at h; cases h
  | .tp ts, .dct _ _, _, _, h => by unfold bindT at h; cases h
  | .tp ts, .obj _ _, _, _, h => by unfold bindT at h; cases h
  | .tp ts, .res, _, _, h => by unfold bindT at h; cases h
  | .tp ts, .scr _, _, _, h => by unfold bindT at h; cases h
theorem bindTs_len' : ∀ {Ts : List Tg} {ds : List D} {e e' : List (Option Cell)}, bindTs Ts ds e = some e' → e'.length = e.length
  | [], [], e, e', h => by unfold bindTs at h; cases h; rfl
  | t :: ts, d :: ds, e, e', h => by
    unfold bindTs at h
    obtain ⟨e1, h1, h⟩ := Option.bind_eq_some_iff.mp h
    rw [bindTs_len' h, bindT_len h1]
  | [], _ :: _, _, _, h => by unfold bindTs at h; cases h
  | _ :: _, [], _, _, h => by unfold bindTs at h; cases h
end
section
variable {g : G} {X : Cx}
/-! ### [e for x in xs if t] -/
def lcL {R : Type} (vs : List Nat) (T : Tg) (mt me : M R Vr) : List D → List D → M R (List D)
  | [], acc => fun s => some (acc, s)
  | d :: ds, acc => fun s => if plainAt s.e vs then (bindT T d (wipeE s.e vs)).bind fun e' => (mt { s with e := e' }).bind fun p => match p.1 with
    | .sh (.bl true) => (me p.2).bind fun q => (esc (soft q.1) q.2).bind fun z => if acc.length < sizeLine then lcL vs T mt me ds (acc ++ [z.1]) { z.2 with e := backE s.e z.2.e vs } else none
    | .sh (.bl false) => lcL vs T mt me ds acc { p.2 with e := backE s.e p.2.e vs }
    | _ => none
    else none
def mLc {R : Type} (vs : List Nat) (mi : M R (List D)) (T : Tg) (mt me : M R Vr) : M R Vr := fun s => (mi s).bind fun p => (lcL vs T mt me p.1 [] p.2).map fun q => (.tmp (.lst q.1), q.2)
theorem Locked.free {F1 H1 HL : Hp} (l : Locked X F1 H1 HL) {a : Addr} (h : HL a = none) : H1 a = none := by
  rcases l with rfl | ⟨d, u, od, h1, h2, h3, rfl, _⟩
  · exact h
  · by_cases z : a = d
    · subst z; rw [upd_same] at h; cases h
    · rw [upd_ne z] at h; exact h
/-- the block is entered -/
theorem Sim.wipe {F H : Hp} {s : S g.R.S} {σ : St} (I : Sim g F s σ H) (vs : List Nat) : Sim g F { s with e := wipeE s.e vs } (L2.wipe σ vs) H := by
  refine ⟨I.sub, I.at_, I.foot, by show (wipeE s.e vs).length = _; rw [wipeE_length, wipe_length]; exact I.len, fun i c e => ?_, fun i j ci cj a hne ei ej oi oj hi => ?_⟩
  · obtain ⟨h1, h2⟩ := wipeE_some e
    rw [wipe_out h2]
    exact I.cell i c h1
  · obtain ⟨h1, h2⟩ := wipeE_some ei
    obtain ⟨h3, h4⟩ := wipeE_some ej
    rw [wipe_out h2] at hi
    rw [wipe_out h4]
    exact I.apart i j ci cj a hne h1 h3 oi oj hi
theorem Own.wipe {e : List (Option Cell)} {σ : St} {vs : List Nat} {a : Addr} (h : Own (L2.wipe σ vs) (wipeE e vs) a) : Own σ e a := by
  obtain ⟨i, c, h1, h2, h3⟩ := h
  obtain ⟨h4, h5⟩ := wipeE_some h1
  rw [wipe_out h5] at h3
  exact ⟨i, c, h4, h2, h3⟩
/-- .. and left: s0 the state ahead of it -/
theorem Sim.back {F0 F H0 H : Hp} {s0 s : S g.R.S} {σ σ2 : St} {vs : List Nat} (I0 : Sim g F0 s0 σ H0) (pl : plainAt s0.e vs = true) (le : Le F0 F) (I : Sim g F s σ2 H) (hl : σ2.length = σ.length) (fr : ∀ j, j ∉ vs → σ2[j]? = σ[j]?) : Sim g F { s with e := backE s0.e s.e vs } σ H := by
  have out : ∀ {j : Nat} {c : Cell}, (backE s0.e s.e vs)[j]? = some (some c) → c.own = true → j ∉ vs ∧ s.e[j]? = some (some c) := fun {j c} e ho => by
    by_cases hj : j ∈ vs
    · have := plain_of pl hj (backE_in hj e)
      rw [ho] at this; cases this
    · rw [backE_out hj] at e; exact ⟨hj, e⟩
  refine ⟨I.sub, I.at_, I.foot, by show (backE s0.e s.e vs).length = _; rw [backE_length, ← hl]; exact I.len, fun i c e => ?_, fun i j ci cj a hne ei ej oi oj hi => ?_⟩
  · replace e : (backE s0.e s.e vs)[i]? = some (some c) := e
    by_cases hi : i ∈ vs
    · have e0 := backE_in hi e
      have ho := plain_of pl hi e0
      obtain ⟨v, h1, h2⟩ := I0.cell i c e0
      refine ⟨v, h1, ?_⟩
      rcases h2 with ⟨_, h2⟩ | ⟨h2, _⟩
      · exact .inl ⟨ho, h2.mono le⟩
      · rw [ho] at h2; cases h2
    · rw [backE_out hi] at e
      rw [← fr i hi]
      exact I.cell i c e
  · obtain ⟨h1, h2⟩ := out ei oi
    obtain ⟨h3, h4⟩ := out ej oj
    rw [← fr i h1] at hi
    rw [← fr j h3]
    exact I.apart i j ci cj a hne h2 h4 oi oj hi
theorem Own.back {e0 e : List (Option Cell)} {σ σ2 : St} {vs : List Nat} {a : Addr} (pl : plainAt e0 vs = true) (fr : ∀ j, j ∉ vs → σ2[j]? = σ[j]?) (h : Own σ (backE e0 e vs) a) : Own σ2 e a := by
  obtain ⟨i, c, h1, h2, h3⟩ := h
  by_cases hi : i ∈ vs
  · have := plain_of pl hi (backE_in hi h1)
    rw [h2] at this; cases this
  · rw [backE_out hi] at h1
    rw [← fr i hi] at h3
    exact ⟨i, c, h1, h2, h3⟩
/-- a list that is being made: no slot's, not kept yet -/
structure Mk0 (g : G) (F : Hp) (e : List (Option Cell)) (σ : St) (H : Hp) (p : Addr) (av : List V) : Prop where
  at_ : H p = some (.lst av)
  nf : F p = none
  no : ¬ Own σ e p
theorem Mk0.keep {F F' H H' : Hp} {s s' : S g.R.S} {σ σ' : St} {p : Addr} {av : List V} (m : Mk0 g F s.e σ H p av) (ft : ¬ g.R.foot p) (K : Keep g F s σ H F' s' σ' H') : Mk0 g F' s'.e σ' H' p av :=
  ⟨K.heap _ _ m.at_ m.no ft, K.nof _ _ m.at_ (fun _ z => nomatch z) m.nf m.no, fun z => by
    rcases K.own p z with z | z
    · exact m.no z
    · rw [m.at_] at z; cases z⟩
/-- its content changes -/
theorem Sim.grow {F H : Hp} {s : S g.R.S} {σ : St} {p : Addr} {o : HO} (I : Sim g F s σ H) (nf : F p = none) (no : ¬ Own σ s.e p) (ft : ¬ g.R.foot p) : Sim g F s σ (upd H p o) := by
  refine ⟨fun a u e => ?_, g.R.stay I.at_ fun a ha => upd_ne (fun (z : a = p) => ft (by rw [← z]; exact ha)), I.foot, I.len, fun i c e => ?_, I.apart⟩
  · rw [upd_ne (fun z => by rw [z, nf] at e; cases e)]; exact I.sub a u e
  · obtain ⟨v, h1, h2⟩ := I.cell i c e
    refine ⟨v, h1, ?_⟩
    rcases h2 with h2 | ⟨h2, q, x, r1, r2, r3, r4, r5⟩
    · exact .inl h2
    · refine .inr ⟨h2, q, x, r1, r2, r3, ?_, r5⟩
      rw [upd_ne (fun z => no ⟨i, c, e, h2, by rw [h1, r1, z]⟩)]; exact r4
theorem Keep.grow' {F0 F H0 H : Hp} {s0 s : S g.R.S} {σ0 σ : St} {p : Addr} {o : HO} (K : Keep g F0 s0 σ0 H0 F s σ H) (h0 : H0 p = none) : Keep g F0 s0 σ0 H0 F s σ (upd H p o) :=
  ⟨fun a u e n nf => by rw [upd_ne (ne_of_none e h0)]; exact K.heap a u e n nf, K.grow, K.nof, K.own, fun a u e => by rw [upd_ne (ne_of_none e h0)]; exact K.there a u e⟩
theorem RepAll.append {F : Hp} : ∀ {xs : List V} {ds : List D} {y : V} {d : D}, RepAll g F xs ds → Rep g F y d → RepAll g F (xs ++ [y]) (ds ++ [d])
  | _, _, _, _, .nil, h => .cons h .nil
  | _, _, _, _, .cons a b, h => .cons a (RepAll.append b h)
theorem tLc_of {vs : List Nat} {mi : M g.R.S (List D)} {T : Tg} {mt me : M g.R.S Vr} {σ : St} {H : Hp} {Q : VK} (hT : ∀ j ∈ tSlots T, j ∈ vs) (h : tM g (mLc vs mi T mt me) σ H Q) : tLc (tI g X mi) (tG g T) (tMB g mt) (tM g me) vs σ H (fun v H' => Ul X (Q v) H') := by
  obtain ⟨F, s, res, sf0, I, e, k⟩ := h
  unfold mLc at e
  obtain ⟨⟨ds, s1⟩, e1, e⟩ := Option.bind_eq_some_iff.mp e
  obtain ⟨⟨qf, sf⟩, e2, e⟩ := Option.map_eq_some_iff.mp e
  cases e
  refine ⟨F, s, ds, s1, I, e1, fun F1 H1 HL J I1 K1 l it p hp => ?_⟩
  have IL := I1.lock l
  have ft : ¬ g.R.foot p := IL.nofoot hp
  have x0 : Ext F1 HL F1 (upd HL p (.lst [])) := Ext.tmp IL.sub hp
  have no0 : ¬ Own σ s1.e p := fun z => by
    obtain ⟨o, e, _⟩ := (IL.own_at z).2.2
    rw [hp] at e; cases e
  refine ⟨fun i m H' => m = ds.length - i ∧ i ≤ ds.length ∧ ∃ F' s' av ad, Sim g F' s' σ H' ∧ Keep g F1 s1 σ HL F' s' σ H' ∧ Mk0 g F' s'.e σ H' p av ∧ RepAll g F' av ad ∧ lcL vs T mt me (ds.drop i) ad s' = some (qf, sf),
    ⟨_, rfl, Nat.zero_le _, F1, s1, [], [], IL.ext x0, Keep.ext x0, ⟨upd_same, IL.sub.free hp, no0⟩, .nil, by simpa using e2⟩, ?_⟩
  rintro i m H2 ⟨rfl, hi, F2, s2, av, ad, I2, K2, m2, r2, e2⟩
  have pr := Keep.pres IL K2
  by_cases hlt : i < ds.length
  · have hd : ds[i]? = some ds[i] := List.getElem?_eq_getElem hlt
    obtain ⟨go, yl⟩ := it.go F2 H2 K2.grow I2.sub pr i _ hd
    rw [List.drop_eq_getElem_cons hlt] at e2
    unfold lcL at e2
    cases pl : plainAt s2.e vs with
    | false => rw [pl] at e2; cases e2
    | true =>
    rw [pl, if_pos rfl] at e2
    obtain ⟨e', e3, e2⟩ := Option.bind_eq_some_iff.mp e2
    obtain ⟨⟨rt, s3⟩, e4, e2⟩ := Option.bind_eq_some_iff.mp e2
    refine .inr ⟨go, fun H' => ∃ F' s' av' ad', Sim g F' s' σ H' ∧ Keep g F1 s1 σ HL F' s' σ H' ∧ Mk0 g F' s'.e σ H' p av' ∧ RepAll g F' av' ad' ∧ lcL vs T mt me (ds.drop (i + 1)) ad' s' = some (qf, sf), fun H' ⟨F', s', av', ad', q⟩ => ⟨ds.length - (i + 1), by omega, rfl, hlt, F', s', av', ad', q⟩, fun x H3 hy => ?_⟩
    obtain ⟨F3, x3, r3⟩ := yl x H3 hy
    have I3 := I2.ext x3
    have K3 := K2.trans (Keep.ext x3) I3
    have m3 : Mk0 g F3 s2.e σ H3 p av := m2.keep ft (Keep.ext x3)
    have I3w := I3.wipe vs
    refine ⟨F3, _, _, e', I3w, r3, e3, fun σ4 I4 ow fr => ?_⟩
    have hlen : σ4.length = σ.length := by
      have h1 : e'.length = σ4.length := I4.len
      rw [← h1, bindT_len e3, wipeE_length, I3.len]
    have fr' : ∀ j, j ∉ vs → σ4[j]? = σ[j]? := fun j hj => by rw [fr j fun z => hj (hT j z), wipe_out hj]
    have m4 : Mk0 g F3 e' σ4 H3 p av := ⟨m3.at_, m3.nf, fun z => m3.no (ow p z).wipe⟩
    refine ⟨wipe_same hlen fr', ?_⟩
    -- what is kept from the block's entry to a state in it
    have kb : ∀ {F5 H5 : Hp} {s5 : S g.R.S}, Keep g F3 { s2 with e := e' } σ4 H3 F5 s5 σ4 H5 → Sim g F5 s5 σ4 H5 → Sim g F5 { s5 with e := backE s2.e s5.e vs } σ H5 ∧ Keep g F3 s2 σ H3 F5 { s5 with e := backE s2.e s5.e vs } σ H5 := fun {F5 H5 s5} K5 I5 => by
      have I6 := Sim.back (vs := vs) I3 pl K5.grow I5 hlen fr'
      refine ⟨I6, ⟨fun a u e n nf => K5.heap a u e (fun z => n (ow a z).wipe) nf, K5.grow, fun a u e nt q n => K5.nof a u e nt q fun z => n (ow a z).wipe, fun a z => ?_, K5.there⟩⟩
      rcases K5.own a (z.back pl fr') with z | z
      · exact .inl (ow a z).wipe
      · exact .inr z
    cases rt with
    | tmp _ => cases e2
    | sl _ => cases e2
    | sh dt => cases dt with
      | bl b =>
        refine ⟨F3, _, b, s3, I4, e4, fun F5 H5 I5 K5 => ?_⟩
        obtain ⟨I6, K6⟩ := kb K5 I5
        cases b with
        | false =>
          refine iteF ⟨F5, _, av, ad, I6, K3.trans K6 I6, ?_, r2.mono (x3.le.trans K5.grow), e2⟩
          exact Mk0.keep (s' := { s3 with e := backE s2.e s3.e vs }) m3 ft K6
        | true =>
          refine iteT ?_
          obtain ⟨⟨r5, s5⟩, e5, e2⟩ := Option.bind_eq_some_iff.mp e2
          obtain ⟨⟨d6, s6⟩, e6, e2⟩ := Option.bind_eq_some_iff.mp e2
          by_cases hsz : ad.length < sizeLine
          · replace e2 : (if ad.length < sizeLine then lcL vs T mt me (ds.drop (i + 1)) (ad ++ [d6]) { s6 with e := backE s2.e s6.e vs } else none) = some (qf, sf) := e2
            rw [if_pos hsz] at e2
            refine tM_esc I5 e5 e6 fun F7 y H7 I7 K7 r7 => ?_
            have K57 := K5.trans K7 I7
            obtain ⟨I8, K8⟩ := kb K57 I7
            have K38 := K3.trans K8 I8
            have m8 : Mk0 g F7 (backE s2.e s6.e vs) σ H7 p av := Mk0.keep (s' := { s6 with e := backE s2.e s6.e vs }) m3 ft K8
            have r8 : RepAll g F7 av ad := r2.mono (x3.le.trans K57.grow)
            refine ⟨av, m8.at_, by rw [r8.length]; exact hsz, F7, _, av ++ [y], ad ++ [d6], I8.grow m8.nf m8.no ft, K38.grow' hp, ⟨upd_same, m8.nf, m8.no⟩, ?_, e2⟩
            exact r8.append r7
          · replace e2 : (if ad.length < sizeLine then lcL vs T mt me (ds.drop (i + 1)) (ad ++ [d6]) { s6 with e := backE s2.e s6.e vs } else none) = some (qf, sf) := e2
            rw [if_neg hsz] at e2; cases e2
      | _ => cases e2
  · have e' : i = ds.length := by omega
    subst e'
    rw [List.drop_length] at e2
    cases e2
    refine .inl ⟨it.stop F2 H2 K2.grow I2.sub pr, Sim.unlock I1 K1 l I2 K2 fun H' hk I' K' => k F2 _ H' I' K' ⟨p, .lst av, rfl, ?_, m2.nf, ft, m2.no, hk _ _ m2.nf m2.at_, .lst r2⟩⟩
    cases q : H p with
    | none => rfl
    | some u =>
      obtain ⟨o', z⟩ := K1.there p u q
      rw [l.free hp] at z; cases z
end
end RW
namespace RW
open PySem L2
/-! ### keys -/
mutual
def keq : D → D → Bool
  | .int i, .int j => decide (i = j)
  | .str x, .str y => decide (x = y)
  | .tup a, .tup b => keqs a b
  | _, _ => false
def keqs : List D → List D → Bool
  | [], [] => true
  | a :: as, b :: bs => keq a b && keqs as bs
  | _, _ => false
end
def getE (es : List (D × D)) (k : D) : Option D := (es.find? fun p => keq p.1 k).map (·.2)
def putE (es : List (D × D)) (k v : D) : List (D × D) := if (es.any fun p => keq p.1 k) = true then es.map (fun p => if keq p.1 k = true then (p.1, v) else p) else es ++ [(k, v)]
def kOf : D → Option Key
  | .int i => some (.inl i)
  | .str x => some (.inr x)
  | _ => none
theorem kOf_some {d : D} {k : Key} (h : kOf d = some k) : d = keyD k := by
  cases d <;> cases h <;> rfl
theorem keq_key (a b : Key) : keq (keyD a) (keyD b) = decide (a = b) := by
  cases a <;> cases b <;> simp [keyD, keq]
theorem keqs_keys : ∀ a b : List Key, keqs (a.map keyD) (b.map keyD) = decide (a = b)
  | [], [] => by simp [keqs]
  | [], _ :: _ => by simp [keqs]
  | _ :: _, [] => by simp [keqs]
  | a :: as, b :: bs => by
    simp only [List.map_cons, keqs, keq_key, keqs_keys as bs, List.cons.injEq, Bool.decide_and]
theorem keq_tup (a b : List Key) : keq (.tup (a.map keyD)) (.tup (b.map keyD)) = decide (a = b) := by
  unfold keq
  exact keqs_keys a b
section
variable {g : G} {X : Cx}
theorem RepK.val {F : Hp} (k : Key) : ∀ {kvs : List (Key × V)} {es : List (D × D)}, RepK g F kvs es → (∀ d, getE es (keyD k) = some d → ∃ v, valV kvs k = some v ∧ Rep g F v d) ∧ (getE es (keyD k) = none → valV kvs k = none)
  | _, _, .nil => ⟨fun _ h => (nomatch h), fun _ => rfl⟩
  | _, _, .cons (k := k') (v := v) (d := d) h t => by
    obtain ⟨h1, h2⟩ := RepK.val k t
    by_cases e : k' = k
    · subst e
      have e1 : ∀ {r : List (D × D)}, getE ((keyD k', d) :: r) (keyD k') = some d := fun {r} => by simp [getE, List.find?_cons, keq_key]
      rw [e1, valV_pos (p := (k', v)) rfl]
      exact ⟨fun d' h' => by cases h'; exact ⟨v, rfl, h⟩, fun h' => by cases h'⟩
    · have e1 : ∀ {r : List (D × D)}, getE ((keyD k', d) :: r) (keyD k) = getE r (keyD k) := fun {r} => by simp [getE, List.find?_cons, keq_key, e]
      rw [e1, valV_neg (p := (k', v)) e]
      exact ⟨h1, h2⟩
theorem RepT.val {F : Hp} (k : List Key) : ∀ {kvs : List (List Key × V)} {es : List (D × D)}, RepT g F kvs es → (∀ d, getE es (.tup (k.map keyD)) = some d → ∃ v, valV kvs k = some v ∧ Rep g F v d) ∧ (getE es (.tup (k.map keyD)) = none → valV kvs k = none)
  | _, _, .nil => ⟨fun _ h => (nomatch h), fun _ => rfl⟩
  | _, _, .cons (k := k') (v := v) (d := d) h t => by
    obtain ⟨h1, h2⟩ := RepT.val k t
    by_cases e : k' = k
    · subst e
      have e1 : ∀ {r : List (D × D)}, getE ((.tup (k'.map keyD), d) :: r) (.tup (k'.map keyD)) = some d := fun {r} => by simp [getE, List.find?_cons, keq_tup]
      rw [e1, valV_pos (p := (k', v)) rfl]
      exact ⟨fun d' h' => by cases h'; exact ⟨v, rfl, h⟩, fun h' => by cases h'⟩
    · have e1 : ∀ {r : List (D × D)}, getE ((.tup (k'.map keyD), d) :: r) (.tup (k.map keyD)) = getE r (.tup (k.map keyD)) := fun {r} => by simp [getE, List.find?_cons, keq_tup, e]
      rw [e1, valV_neg (p := (k', v)) e]
      exact ⟨h1, h2⟩
theorem RepK.any {F : Hp} (k : Key) : ∀ {kvs : List (Key × V)} {es : List (D × D)}, RepK g F kvs es → (es.any fun p => keq p.1 (keyD k)) = kvs.any fun kv => decide (kv.1 = k)
  | _, _, .nil => rfl
  | _, _, .cons h t => by simp only [List.any_cons, keq_key, RepK.any k t]
theorem RepK.map {F : Hp} (k : Key) {v : V} {d : D} (r : Rep g F v d) : ∀ {kvs : List (Key × V)} {es : List (D × D)}, RepK g F kvs es → RepK g F (kvs.map fun kv => if kv.1 = k then (kv.1, v) else kv) (es.map fun p => if keq p.1 (keyD k) = true then (p.1, d) else p)
  | _, _, .nil => .nil
  | _, _, .cons (k := k') h t => by
    simp only [List.map_cons, keq_key, decide_eq_true_eq]
    by_cases e : k' = k
    · rw [if_pos e, if_pos e]; exact .cons r (RepK.map k r t)
    · rw [if_neg e, if_neg e]; exact .cons h (RepK.map k r t)
theorem RepK.append {F : Hp} (k : Key) {v : V} {d : D} (r : Rep g F v d) : ∀ {kvs : List (Key × V)} {es : List (D × D)}, RepK g F kvs es → RepK g F (kvs ++ [(k, v)]) (es ++ [(keyD k, d)])
  | _, _, .nil => .cons r .nil
  | _, _, .cons h t => .cons h (RepK.append k r t)
theorem RepK.put {F : Hp} (k : Key) {v : V} {d : D} (r : Rep g F v d) {kvs : List (Key × V)} {es : List (D × D)} (h : RepK g F kvs es) : RepK g F (putK kvs k v) (putE es (keyD k) d) := by
  unfold putK putE
  rw [h.any k]
  split
  · exact h.map k r
  · exact h.append k r
theorem RepT.any {F : Hp} (k : List Key) : ∀ {kvs : List (List Key × V)} {es : List (D × D)}, RepT g F kvs es → (es.any fun p => keq p.1 (.tup (k.map keyD))) = kvs.any fun kv => decide (kv.1 = k)
  | _, _, .nil => rfl
  | _, _, .cons h t => by simp only [List.any_cons, keq_tup, RepT.any k t]
theorem RepT.map {F : Hp} (k : List Key) {v : V} {d : D} (r : Rep g F v d) : ∀ {kvs : List (List Key × V)} {es : List (D × D)}, RepT g F kvs es → RepT g F (kvs.map fun kv => if kv.1 = k then (kv.1, v) else kv) (es.map fun p => if keq p.1 (.tup (k.map keyD)) = true then (p.1, d) else p)
  | _, _, .nil => .nil
  | _, _, .cons (k := k') h t => by
    simp only [List.map_cons, keq_tup, decide_eq_true_eq]
    by_cases e : k' = k
    · rw [if_pos e, if_pos e]; exact .cons r (RepT.map k r t)
    · rw [if_neg e, if_neg e]; exact .cons h (RepT.map k r t)
theorem RepT.append {F : Hp} (k : List Key) {v : V} {d : D} (r : Rep g F v d) : ∀ {kvs : List (List Key × V)} {es : List (D × D)}, RepT g F kvs es → RepT g F (kvs ++ [(k, v)]) (es ++ [(.tup (k.map keyD), d)])
  | _, _, .nil => .cons r .nil
  | _, _, .cons h t => .cons h (RepT.append k r t)
theorem RepT.put {F : Hp} (k : List Key) {v : V} {d : D} (r : Rep g F v d) {kvs : List (List Key × V)} {es : List (D × D)} (h : RepT g F kvs es) : RepT g F (putK kvs k v) (putE es (.tup (k.map keyD)) d) := by
  unfold putK putE
  rw [h.any k]
  split
  · exact h.map k r
  · exact h.append k r
/-! ### comprehensions by expressions -/
def DTs (g : G) (X : Cx) (ifs : List Expr) (m : M g.R.S Vr) : Prop := PTs X ifs (tMB g m)
theorem PTs.imp {ifs : List Expr} {t t' : TT} (h : PTs X ifs t) (w : ∀ σ H Q, t' σ H Q → t σ H Q) : PTs X ifs t' := ⟨fun pins s σ H Q I q => h.run pins s σ H Q I (w _ _ _ q)⟩
theorem c_nil : DTs g X [] (mC (.bl true)) := PTs.imp pts_nil fun σ H Q ⟨F, s, b, s', I, e, k⟩ => by
  cases e
  exact k F H I Keep.refl
theorem c_one {c : Expr} {m : M g.R.S Vr} (h : DT g X c m) : DTs g X [c] m := pts_one h
theorem d_lc {elt tg iter : Expr} {ifs : List Expr} {scope : Scope} {pos : Pos} {mi : M g.R.S (List D)} {T : Tg} {mt me : M g.R.S Vr} {k : Nat} (own : List (Str × Nat)) (o : XO g k X) (hi : DI g X tg iter mi) (ok : BlkOk X.N X.env.scope scope own)
    (hg : ∀ (s : Shared) (H : Hp) (C : Addr) (cl : List (Str × Addr)) (fp : List Addr), PG (X.blk s H scope (compEnvC scope cl C X.env) fp) tg (tG g T)) (ht : ∀ (s : Shared) (H : Hp) (C : Addr) (cl : List (Str × Addr)) (fp : List Addr), DTs g (X.blk s H scope (compEnvC scope cl C X.env) fp) ifs mt)
    (he : ∀ (s : Shared) (H : Hp) (C : Addr) (cl : List (Str × Addr)) (fp : List Addr), DE g (X.blk s H scope (compEnvC scope cl C X.env) fp) elt me) (hT : ∀ j ∈ tSlots T, j ∈ own.map (·.2) := by decide) (hs : ∀ x, foldedSetIterable iter X.env x = pure x := by intro _; rfl) :
    DE g X (.ListComp elt [⟨tg, iter, ifs, 0⟩] scope pos) (mLc (own.map (·.2)) mi T mt me) :=
  PE.imp (pe_un' (pe_lc (own := own) o.calm o.nd hi ok hg ht he hs)) fun σ H Q h => tLc_of hT h
theorem s_setLc {i : Nat} {y : Str} {py : Pos} {elt tg iter : Expr} {ifs : List Expr} {scope : Scope} {pos spos : Pos} {mi : M g.R.S (List D)} {T : Tg} {mt me : M g.R.S Vr} {k : Nat} (own : List (Str × Nat)) (o : XO g k X) (hi : DI g X tg iter mi) (ok : BlkOk X.N X.env.scope scope own)
    (hg : ∀ (s : Shared) (H : Hp) (C : Addr) (cl : List (Str × Addr)) (fp : List Addr), PG (X.blk s H scope (compEnvC scope cl C X.env) fp) tg (tG g T)) (ht : ∀ (s : Shared) (H : Hp) (C : Addr) (cl : List (Str × Addr)) (fp : List Addr), DTs g (X.blk s H scope (compEnvC scope cl C X.env) fp) ifs mt)
    (he : ∀ (s : Shared) (H : Hp) (C : Addr) (cl : List (Str × Addr)) (fp : List Addr), DE g (X.blk s H scope (compEnvC scope cl C X.env) fp) elt me)
    (hsw : swapsWith (.ListComp elt [⟨tg, iter, ifs, 0⟩] scope pos) (some (.Name y py)) spos.line X.env = pure true)
    (hT : ∀ j ∈ tSlots T, j ∈ own.map (·.2) := by decide) (hs : ∀ x, foldedSetIterable iter X.env x = pure x := by intro _; rfl) (hy : X.N[i]? = some y := by rfl) (hyl : X.env.scope.names.lookup y = some .local := by rfl) :
    DS g X (.Assign [.Name y py] (.ListComp elt [⟨tg, iter, ifs, 0⟩] scope pos) spos) (mSet i (mLc (own.map (·.2)) mi T mt me)) :=
  PS.imp (ps_un (ps_setLc (own := own) o.calm o.nd hy hyl hsw hi ok hg ht he hs)) fun E σ H h => tLc_of hT (tSet_of h)
/-! ### {k: v for x in xs if t} -/
def dcL {R : Type} (vs : List Nat) (T : Tg) (mt mk mv : M R Vr) : List D → List (D × D) → M R (List (D × D))
  | [], acc => fun s => some (acc, s)
  | d :: ds, acc => fun s => if plainAt s.e vs then (bindT T d (wipeE s.e vs)).bind fun e' => (mt { s with e := e' }).bind fun p => match p.1 with
    | .sh (.bl true) => (mk p.2).bind fun q => (esc (soft q.1) q.2).bind fun z => (kOf z.1).bind fun key => (mv z.2).bind fun q2 => (esc (soft q2.1) q2.2).bind fun z2 =>
      if acc.length < sizeLine then dcL vs T mt mk mv ds (putE acc (keyD key) z2.1) { z2.2 with e := backE s.e z2.2.e vs } else none
    | .sh (.bl false) => dcL vs T mt mk mv ds acc { p.2 with e := backE s.e p.2.e vs }
    | _ => none
    else none
def mDc {R : Type} (vs : List Nat) (mi : M R (List D)) (T : Tg) (mt mk mv : M R Vr) : M R Vr := fun s => (mi s).bind fun p => (dcL vs T mt mk mv p.1 [] p.2).map fun q => (.tmp (.dct false q.1), q.2)
structure MkD (g : G) (F : Hp) (e : List (Option Cell)) (σ : St) (H : Hp) (p : Addr) (av : List (Key × V)) : Prop where
  at_ : H p = some (.dK av)
  nf : F p = none
  no : ¬ Own σ e p
theorem MkD.keep {F F' H H' : Hp} {s s' : S g.R.S} {σ σ' : St} {p : Addr} {av : List (Key × V)} (m : MkD g F s.e σ H p av) (ft : ¬ g.R.foot p) (K : Keep g F s σ H F' s' σ' H') : MkD g F' s'.e σ' H' p av :=
  ⟨K.heap _ _ m.at_ m.no ft, K.nof _ _ m.at_ (fun _ z => nomatch z) m.nf m.no, fun z => by
    rcases K.own p z with z | z
    · exact m.no z
    · rw [m.at_] at z; cases z⟩
theorem tDc_of {vs : List Nat} {mi : M g.R.S (List D)} {T : Tg} {mt mk mv : M g.R.S Vr} {σ : St} {H : Hp} {Q : VK} (hT : ∀ j ∈ tSlots T, j ∈ vs) (h : tM g (mDc vs mi T mt mk mv) σ H Q) : tDc (tI g X mi) (tG g T) (tMB g mt) (tM g mk) (tM g mv) vs σ H (fun v H' => Ul X (Q v) H') := by
  obtain ⟨F, s, res, sf0, I, e, k⟩ := h
  unfold mDc at e
  obtain ⟨⟨ds, s1⟩, e1, e⟩ := Option.bind_eq_some_iff.mp e
  obtain ⟨⟨qf, sf⟩, e2, e⟩ := Option.map_eq_some_iff.mp e
  cases e
  refine ⟨F, s, ds, s1, I, e1, fun F1 H1 HL J I1 K1 l it p hp => ?_⟩
  have IL := I1.lock l
  have ft : ¬ g.R.foot p := IL.nofoot hp
  have x0 : Ext F1 HL F1 (upd HL p (.dK [])) := Ext.tmp IL.sub hp
  have no0 : ¬ Own σ s1.e p := fun z => by
    obtain ⟨o, e, _⟩ := (IL.own_at z).2.2
    rw [hp] at e; cases e
  refine ⟨fun i m H' => m = ds.length - i ∧ i ≤ ds.length ∧ ∃ F' s' av ad, Sim g F' s' σ H' ∧ Keep g F1 s1 σ HL F' s' σ H' ∧ MkD g F' s'.e σ H' p av ∧ RepK g F' av ad ∧ dcL vs T mt mk mv (ds.drop i) ad s' = some (qf, sf),
    ⟨_, rfl, Nat.zero_le _, F1, s1, [], [], IL.ext x0, Keep.ext x0, ⟨upd_same, IL.sub.free hp, no0⟩, .nil, by simpa using e2⟩, ?_⟩
  rintro i m H2 ⟨rfl, hi, F2, s2, av, ad, I2, K2, m2, r2, e2⟩
  have pr := Keep.pres IL K2
  by_cases hlt : i < ds.length
  · have hd : ds[i]? = some ds[i] := List.getElem?_eq_getElem hlt
    obtain ⟨go, yl⟩ := it.go F2 H2 K2.grow I2.sub pr i _ hd
    rw [List.drop_eq_getElem_cons hlt] at e2
    unfold dcL at e2
    cases pl : plainAt s2.e vs with
    | false => rw [pl] at e2; cases e2
    | true =>
    rw [pl, if_pos rfl] at e2
    obtain ⟨e', e3, e2⟩ := Option.bind_eq_some_iff.mp e2
    obtain ⟨⟨rt, s3⟩, e4, e2⟩ := Option.bind_eq_some_iff.mp e2
    refine .inr ⟨go, fun H' => ∃ F' s' av' ad', Sim g F' s' σ H' ∧ Keep g F1 s1 σ HL F' s' σ H' ∧ MkD g F' s'.e σ H' p av' ∧ RepK g F' av' ad' ∧ dcL vs T mt mk mv (ds.drop (i + 1)) ad' s' = some (qf, sf), fun H' ⟨F', s', av', ad', q⟩ => ⟨ds.length - (i + 1), by omega, rfl, hlt, F', s', av', ad', q⟩, fun x H3 hy => ?_⟩
    obtain ⟨F3, x3, r3⟩ := yl x H3 hy
    have I3 := I2.ext x3
    have K3 := K2.trans (Keep.ext x3) I3
    have m3 : MkD g F3 s2.e σ H3 p av := m2.keep ft (Keep.ext x3)
    have I3w := I3.wipe vs
    refine ⟨F3, _, _, e', I3w, r3, e3, fun σ4 I4 ow fr => ?_⟩
    have hlen : σ4.length = σ.length := by
      have h1 : e'.length = σ4.length := I4.len
      rw [← h1, bindT_len e3, wipeE_length, I3.len]
    have fr' : ∀ j, j ∉ vs → σ4[j]? = σ[j]? := fun j hj => by rw [fr j fun z => hj (hT j z), wipe_out hj]
    refine ⟨wipe_same hlen fr', ?_⟩
    have kb : ∀ {F5 H5 : Hp} {s5 : S g.R.S}, Keep g F3 { s2 with e := e' } σ4 H3 F5 s5 σ4 H5 → Sim g F5 s5 σ4 H5 → Sim g F5 { s5 with e := backE s2.e s5.e vs } σ H5 ∧ Keep g F3 s2 σ H3 F5 { s5 with e := backE s2.e s5.e vs } σ H5 := fun {F5 H5 s5} K5 I5 => by
      have I6 := Sim.back (vs := vs) I3 pl K5.grow I5 hlen fr'
      refine ⟨I6, ⟨fun a u e n nf => K5.heap a u e (fun z => n (ow a z).wipe) nf, K5.grow, fun a u e nt q n => K5.nof a u e nt q fun z => n (ow a z).wipe, fun a z => ?_, K5.there⟩⟩
      rcases K5.own a (z.back pl fr') with z | z
      · exact .inl (ow a z).wipe
      · exact .inr z
    cases rt with
    | tmp _ => cases e2
    | sl _ => cases e2
    | sh dt => cases dt with
      | bl b =>
        refine ⟨F3, _, b, s3, I4, e4, fun F5 H5 I5 K5 => ?_⟩
        obtain ⟨I6, K6⟩ := kb K5 I5
        cases b with
        | false =>
          refine iteF ⟨F5, _, av, ad, I6, K3.trans K6 I6, ?_, r2.mono (x3.le.trans K5.grow), e2⟩
          exact MkD.keep (s' := { s3 with e := backE s2.e s3.e vs }) m3 ft K6
        | true =>
          refine iteT ?_
          obtain ⟨⟨r5, s5⟩, e5, e2⟩ := Option.bind_eq_some_iff.mp e2
          obtain ⟨⟨d6, s6⟩, e6, e2⟩ := Option.bind_eq_some_iff.mp e2
          obtain ⟨key, ek, e2⟩ := Option.bind_eq_some_iff.mp e2
          obtain ⟨⟨r7, s7⟩, e7, e2⟩ := Option.bind_eq_some_iff.mp e2
          obtain ⟨⟨d8, s8⟩, e8, e2⟩ := Option.bind_eq_some_iff.mp e2
          replace e2 : (if ad.length < sizeLine then dcL vs T mt mk mv (ds.drop (i + 1)) (putE ad (keyD key) d8) { s8 with e := backE s2.e s8.e vs } else none) = some (qf, sf) := e2
          by_cases hsz : ad.length < sizeLine
          · rw [if_pos hsz] at e2
            refine tM_esc I5 e5 e6 fun F7 y H7 I7 K7 r7 => tM_esc I7 e7 e8 fun F9 z H9 I9 K9 r9 => ?_
            have K59 := (K5.trans K7 I7).trans K9 I9
            obtain ⟨I8, K8⟩ := kb K59 I9
            have K38 := K3.trans K8 I8
            have m8 : MkD g F9 (backE s2.e s8.e vs) σ H9 p av := MkD.keep (s' := { s8 with e := backE s2.e s8.e vs }) m3 ft K8
            have r8 : RepK g F9 av ad := r2.mono (x3.le.trans K59.grow)
            have hy' : y = kV key := by
              have hd6 := kOf_some ek
              subst hd6
              cases key with
              | inl i => exact Pk.int (H := H7) (.inl r7)
              | inr x => exact Pk.str (H := H7) (.inl r7)
            refine ⟨av, key, hy', m8.at_, by rw [r8.length]; exact hsz, F9, _, putK av key z, putE ad (keyD key) d8, I8.grow m8.nf m8.no ft, K38.grow' hp, ⟨upd_same, m8.nf, m8.no⟩, ?_, e2⟩
            exact r8.put key r9
          · rw [if_neg hsz] at e2; cases e2
      | _ => cases e2
  · have e' : i = ds.length := by omega
    subst e'
    rw [List.drop_length] at e2
    cases e2
    refine .inl ⟨it.stop F2 H2 K2.grow I2.sub pr, Sim.unlock I1 K1 l I2 K2 fun H' hk I' K' => k F2 _ H' I' K' ⟨p, .dK av, rfl, ?_, m2.nf, ft, m2.no, hk _ _ m2.nf m2.at_, .dK r2⟩⟩
    cases q : H p with
    | none => rfl
    | some u =>
      obtain ⟨o', z⟩ := K1.there p u q
      rw [l.free hp] at z; cases z
theorem d_dc {kx vx tg iter : Expr} {ifs : List Expr} {scope : Scope} {pos : Pos} {mi : M g.R.S (List D)} {T : Tg} {mt mk mv : M g.R.S Vr} {k : Nat} (own : List (Str × Nat)) (o : XO g k X) (hi : DI g X tg iter mi) (ok : BlkOk X.N X.env.scope scope own)
    (hg : ∀ (s : Shared) (H : Hp) (C : Addr) (cl : List (Str × Addr)) (fp : List Addr), PG (X.blk s H scope (compEnvC scope cl C X.env) fp) tg (tG g T)) (ht : ∀ (s : Shared) (H : Hp) (C : Addr) (cl : List (Str × Addr)) (fp : List Addr), DTs g (X.blk s H scope (compEnvC scope cl C X.env) fp) ifs mt)
    (hk : ∀ (s : Shared) (H : Hp) (C : Addr) (cl : List (Str × Addr)) (fp : List Addr), DE g (X.blk s H scope (compEnvC scope cl C X.env) fp) kx mk)
    (he : ∀ (s : Shared) (H : Hp) (C : Addr) (cl : List (Str × Addr)) (fp : List Addr), DE g (X.blk s H scope (compEnvC scope cl C X.env) fp) vx mv) (hT : ∀ j ∈ tSlots T, j ∈ own.map (·.2) := by decide) (hs : ∀ x, foldedSetIterable iter X.env x = pure x := by intro _; rfl) :
    DE g X (.DictComp kx vx [⟨tg, iter, ifs, 0⟩] scope pos) (mDc (own.map (·.2)) mi T mt mk mv) :=
  PE.imp (pe_un' (pe_dc (own := own) o.calm o.nd hi ok hg ht hk he hs)) fun σ H Q h => tDc_of hT h
end
end RW
namespace RW
open PySem L2
section
variable {g : G} {X : Cx}
/-! ### rules joined -/
theorem OpR.or {f : Value → Value → Sem Value} {r r' : R2} (h : OpR X f r) (h' : OpR X f r') : OpR X f (fun x y H Q => r x y H Q ∨ r' x y H Q) := fun pins s σ H x y v u Q I rx ry q => q.elim (h pins s σ H x y v u Q I rx ry) (h' pins s σ H x y v u Q I rx ry)
theorem CallR.or {f : Value} {r r' : List V → Hp → VK → Prop} (h : CallR X f r) (h' : CallR X f r') : CallR X f (fun xs H Q => r xs H Q ∨ r' xs H Q) := fun pins s σ H xs us Q I rx q => q.elim (h pins s σ H xs us Q I rx) (h' pins s σ H xs us Q I rx)
theorem PE.or {e : Expr} {t t' : TE} (h : PE X e t) (h' : PE X e t') : PE X e (fun σ H Q => t σ H Q ∨ t' σ H Q) := ⟨fun pins s σ H Q I q => q.elim (h.run pins s σ H Q I) (h'.run pins s σ H Q I)⟩
theorem PT.or {e : Expr} {t t' : TT} (h : PT X e t) (h' : PT X e t') : PT X e (fun σ H Q => t σ H Q ∨ t' σ H Q) := ⟨fun pins s σ H Q I q => q.elim (h.run pins s σ H Q I) (h'.run pins s σ H Q I)⟩
theorem Op2.or {f f' : D → D → Option Vr} {r r' : R2} (h : Op2 g f r) (h' : Op2 g f' r') : Op2 g (fun x y => match f x y with | some z => some z | none => f' x y) (fun x y H Q => r x y H Q ∨ r' x y H Q) := by
  refine ⟨fun x y z e i => ?_, fun F H x y dx dy z Q s p q e n => ?_⟩
  · cases h1 : f x y with
    | some w => rw [h1] at e; cases e; exact h.no _ _ _ h1 i
    | none => rw [h1] at e; exact h'.no _ _ _ e i
  · cases h1 : f dx dy with
    | some w => rw [h1] at e; cases e; exact .inl (h.ok _ _ _ _ _ _ _ _ s p q h1 n)
    | none => rw [h1] at e; exact .inr (h'.ok _ _ _ _ _ _ _ _ s p q e n)
theorem Op2.of {f f' : D → D → Option Vr} {r : R2} (h : Op2 g f r) (e : ∀ x y z, f' x y = some z → f x y = some z) : Op2 g f' r := ⟨fun x y z h1 => h.no x y z (e _ _ _ h1), fun F H x y dx dy z Q s p q h1 n => h.ok F H x y dx dy z Q s p q (e _ _ _ h1) n⟩
/-! ### ints -/
def o2I (f : Int → Int → Option D) : D → D → Option Vr
  | .int i, .int j => (f i j).map .sh
  | _, _ => none
theorem op2_int {f : Int → Int → Option D} {r : R2} (h : ∀ i j d H Q F, f i j = some d → (∀ v, Rep g F v d → Q v H) → r (.int i) (.int j) H Q) : Op2 g (o2I f) r := by
  refine ⟨fun x y z e i => ?_, fun F H x y dx dy z Q s p q e n => ?_⟩
  · cases x <;> first | cases e | skip
    cases y <;> first | cases e | skip
    obtain ⟨d, _, rfl⟩ := Option.map_eq_some_iff.mp e
    exact fun z => nomatch z
  · cases dx <;> first | cases e | skip
    cases dy <;> first | cases e | skip
    obtain ⟨d, h1, rfl⟩ := Option.map_eq_some_iff.mp e
    obtain rfl := p.int
    obtain rfl := q.int
    exact h _ _ d H Q F h1 fun v r => n F v H (Ext.refl s) r
theorem p_sub : Op2 g (o2I fun i j => some (.int (i - j))) (rI0 fun i j => .int (i - j)) := op2_int fun i j d H Q F e n => by cases e; exact ⟨i, j, rfl, rfl, n _ (.int _)⟩
def iMul (i j : Int) : Option D := if i.natAbs < 18446744073709551616 ∨ j.natAbs < 18446744073709551616 then some (.int (i * j)) else none
def iMod (i j : Int) : Option D := if 0 < j then some (.int (i % j)) else none
theorem p_mod : Op2 g (o2I iMod) (rI (fun _ j => 0 < j) fun i j => .int (i % j)) := op2_int fun i j d H Q F e n => by
  unfold iMod at e
  split at e
  · cases e; exact ⟨i, j, rfl, rfl, by assumption, n _ (.int _)⟩
  · cases e
def iDiv (i j : Int) : Option D := if 0 < j ∧ j.natAbs < 1073741824 then some (.int (i / j)) else none
theorem p_div : Op2 g (o2I iDiv) (rI CDiv fun i j => .int (i / j)) := op2_int fun i j d H Q F e n => by
  unfold iDiv at e
  split at e
  · rename_i h
    cases e; exact ⟨i, j, rfl, rfl, ⟨h.1, by omega⟩, n _ (.int _)⟩
  · cases e
def iPow (i j : Int) : Option D := if 0 ≤ j ∧ j ≤ 1000000 ∧ i.natAbs < 2 ^ 64 then some (.int (i ^ j.toNat)) else none
theorem p_pow : Op2 g (o2I iPow) (rI CPow fun i j => .int (i ^ j.toNat)) := op2_int fun i j d H Q F e n => by
  unfold iPow at e
  split at e
  · cases e; exact ⟨i, j, rfl, rfl, by assumption, n _ (.int _)⟩
  · cases e
/-! comparisons of ints -/
theorem p_le : Op2 g (o2I fun i j => some (.bl (decide (i ≤ j)))) (rI0 fun i j => .bl (decide (i ≤ j))) := op2_int fun i j d H Q F e n => by cases e; exact ⟨i, j, rfl, rfl, n _ (.bl _)⟩
theorem p_ge : Op2 g (o2I fun i j => some (.bl (decide (j ≤ i)))) (rI0 fun i j => .bl (decide (j ≤ i))) := op2_int fun i j d H Q F e n => by cases e; exact ⟨i, j, rfl, rfl, n _ (.bl _)⟩
end
/-! ### == at any depth -/
def toV : D → Option V
  | .non => some .non
  | .bl b => some (.bl b)
  | .int i => some (.int i)
  | .str x => some (.str x)
  | _ => none
def deqL (f : D → D → Option Bool) : List D → List D → Option Bool
  | x :: xs, y :: ys => (f x y).bind fun p => (deqL f xs ys).map fun q => p && q
  | _, _ => some true
def deqF : Nat → D → D → Option Bool
  | 0, _, _ => none
  | n + 1, d, e => match toV d, toV e with
    | some a, some b => some (eqV a b)
    | _, _ => match d, e with
      | .lst a, .lst b => if a.length = b.length then deqL (deqF n) a b else some false
      | .tup a, .tup b => (deqL (deqF n) a b).map fun r => r && decide (a.length = b.length)
      | _, _ => none
section
variable {g : G} {X : Cx}
theorem toV_pk {F H : Hp} {v : V} {d : D} {a : V} (e : toV d = some a) (p : Pk g F H v d) : v = a ∧ flatV a = true := by
  cases d <;> cases e
  · exact ⟨p.non, rfl⟩
  · exact ⟨p.bl, rfl⟩
  · exact ⟨p.int, rfl⟩
  · exact ⟨p.str, rfl⟩
theorem rc_flat {A : Around} {s : Shared} {x y : V} {u v : Value} (rx : RelV x u) (ry : RelV y v) (fx : flatV x = true) (fy : flatV y = true) : SeqAt.RcAt A s u v (eqV x y) ∧ SeqAt.RcNeAt A s u v (!eqV x y) := by
  cases x with
  | non =>
    cases rx
    cases y with
    | non => cases ry; exact ⟨.none_none, .none_none⟩
    | bl b => cases ry; exact ⟨.none_bool b, .none_bool b⟩
    | int j => obtain ⟨t, rfl⟩ := ry; exact ⟨.none_int j t, .none_int j t⟩
    | str z => obtain ⟨t, rfl⟩ := ry; exact ⟨.none_str z t, .none_str z t⟩
    | _ => cases fy
  | bl a =>
    cases rx
    cases y with
    | non => cases ry; exact ⟨.bool_none a, .bool_none a⟩
    | bl b => cases ry; exact ⟨.bool_bool a b, .bool_bool a b⟩
    | int j => obtain ⟨t, rfl⟩ := ry; exact ⟨.bool_int a j t, .bool_int a j t⟩
    | str z => obtain ⟨t, rfl⟩ := ry; exact ⟨.bool_str a z t, .bool_str a z t⟩
    | _ => cases fy
  | int i =>
    obtain ⟨t0, rfl⟩ := rx
    cases y with
    | non => cases ry; exact ⟨.int_none i t0, .int_none i t0⟩
    | bl b => cases ry; exact ⟨.int_bool i t0 b, .int_bool i t0 b⟩
    | int j => obtain ⟨t, rfl⟩ := ry; exact ⟨.int_int i t0 j t, .int_int i t0 j t⟩
    | str z => obtain ⟨t, rfl⟩ := ry; exact ⟨.int_str i t0 z t, .int_str i t0 z t⟩
    | _ => cases fy
  | str w =>
    obtain ⟨t0, rfl⟩ := rx
    cases y with
    | non => cases ry; exact ⟨.str_none w t0, .str_none w t0⟩
    | bl b => cases ry; exact ⟨.str_bool w t0 b, .str_bool w t0 b⟩
    | int j => obtain ⟨t, rfl⟩ := ry; exact ⟨.str_int w t0 j t, .str_int w t0 j t⟩
    | str z => obtain ⟨t, rfl⟩ := ry; exact ⟨.str_str w t0 z t, .str_str w t0 z t⟩
    | _ => cases fy
  | _ => cases fx
theorem eqV_refl {x : V} (h : flatV x = true) : eqV x x = true := by
  cases x <;> simp_all [eqV, flatV]
theorem deqF_inv {n : Nat} {d e : D} {b : Bool} (h : deqF (n + 1) d e = some b) : (∃ x y, toV d = some x ∧ toV e = some y ∧ b = eqV x y) ∨ (∃ ds es, d = .lst ds ∧ e = .lst es ∧ ((ds.length = es.length ∧ deqL (deqF n) ds es = some b) ∨ (ds.length ≠ es.length ∧ b = false))) ∨
    ∃ ds es r, d = .tup ds ∧ e = .tup es ∧ deqL (deqF n) ds es = some r ∧ b = (r && decide (ds.length = es.length)) := by
  unfold deqF at h
  split at h
  · rename_i x y h1 h2
    cases h
    exact .inl ⟨x, y, h1, h2, rfl⟩
  · split at h
    · rename_i ds es _
      refine .inr (.inl ⟨ds, es, rfl, rfl, ?_⟩)
      split at h
      · exact .inl ⟨by assumption, h⟩
      · cases h; exact .inr ⟨by assumption, rfl⟩
    · rename_i ds es _
      obtain ⟨r, h3, h4⟩ := Option.map_eq_some_iff.mp h
      exact .inr (.inr ⟨ds, es, r, rfl, rfl, h3, h4.symm⟩)
    · cases h
/-- the same value told twice is equal -/
theorem deq_same {pins : List (Addr × Obj)} {σ : St} {F H : Hp} {s : Shared} (I : Inv X pins σ H s) (hS : Sub F H) (hK : X.K = g.K) : ∀ (n : Nat) (d e : D) (b : Bool) (x : V), deqF n d e = some b → Pk g F H x d → Pk g F H x e → b = true
  | 0, _, _, _, _, h, _, _ => by cases h
  | n + 1, d, e, b, x, h, p, q => by
    have go : ∀ (xs : List V) (ds es : List D) (r : Bool), RepAll g F xs ds → RepAll g F xs es → deqL (deqF n) ds es = some r → r = true := by
      intro xs
      induction xs with
      | nil =>
        intro ds es r h1 h2 h3
        cases h1
        cases h2
        cases h3; rfl
      | cons y ys ih =>
        intro ds es r h1 h2 h3
        cases h1 with
        | cons a1 a2 => cases h2 with
          | cons b1 b2 =>
            unfold deqL at h3
            obtain ⟨p1, e1, h3⟩ := Option.bind_eq_some_iff.mp h3
            obtain ⟨p2, e2, h3⟩ := Option.map_eq_some_iff.mp h3
            rw [← h3, deq_same I hS hK n _ _ _ _ e1 (.inl a1) (.inl b1), ih _ _ _ a2 b2 e2]
            rfl
    rcases deqF_inv h with ⟨a, c, h1, h2, h3⟩ | ⟨ds, es, rfl, rfl, h3⟩ | ⟨ds, es, r, rfl, rfl, h3, h4⟩
    · obtain ⟨r1, f1⟩ := toV_pk h1 p
      obtain ⟨r2, _⟩ := toV_pk h2 q
      subst r1; subst r2
      rw [h3]; exact eqV_refl f1
    · obtain ⟨a, xs, rfl, e1, r1⟩ := p.lst hS
      obtain ⟨a', ys, z, e2, r2⟩ := q.lst hS
      cases z
      rw [e1] at e2; cases e2
      rcases h3 with ⟨_, h3⟩ | ⟨h3, _⟩
      · exact go _ _ _ _ r1 r2 h3
      · exact (h3 (by rw [← r1.length, ← r2.length])).elim
    · obtain ⟨a, xs, rfl, e1, r1⟩ := p.tup hS
      obtain ⟨a', ys, z, e2, r2⟩ := q.tup hS
      cases z
      have : xs = ys := by
        rw [← hK] at e1 e2
        exact I.tuple_inj e1 e2
      subst this
      rw [h4, go _ _ _ _ r1 r2 h3, ← r1.length, ← r2.length]
      simp
theorem deqL_all {f : D → D → Option Bool} : ∀ {ds es : List D} {r : Bool}, deqL f ds es = some r → ∃ b : Nat → Bool, r = ((List.range (min ds.length es.length)).all b) ∧ ∀ (j : Nat) (d e : D), ds[j]? = some d → es[j]? = some e → f d e = some (b j)
  | [], es, r, h => by
    have : r = true := by cases es <;> (cases h; rfl)
    subst this
    exact ⟨fun _ => true, by simp, fun j d e h1 => by cases h1⟩
  | d :: ds, [], r, h => by
    cases h
    exact ⟨fun _ => true, by simp, fun j d e _ h2 => by cases h2⟩
  | d :: ds, e :: es, r, h => by
    unfold deqL at h
    obtain ⟨p, h1, h⟩ := Option.bind_eq_some_iff.mp h
    obtain ⟨q, h2, h⟩ := Option.map_eq_some_iff.mp h
    obtain ⟨b, hb, hf⟩ := deqL_all h2
    refine ⟨fun j => match j with | 0 => p | j + 1 => b j, ?_, fun j d' e' h3 h4 => ?_⟩
    · rw [← h, hb]
      simp only [List.length_cons, Nat.succ_min_succ, List.range_succ_eq_map, List.all_cons, List.all_map]
      rfl
    · cases j with
      | zero => cases h3; cases h4; exact h1
      | succ j => exact hf j d' e' (by simpa using h3) (by simpa using h4)
theorem deq_run {pins : List (Addr × Obj)} {σ : St} {F H : Hp} {s : Shared} (I : Inv X pins σ H s) (hS : Sub F H) (hK : X.K = g.K) : ∀ (n : Nat) (d e : D) (b : Bool) (x y : V) (u v : Value) (A : Around), deqF n d e = some b → Pk g F H x d → Pk g F H y e → RelV x u → RelV y v → A.units + n < cLine →
    (SeqAt.RcAt A s u v b ∧ SeqAt.RcNeAt A s u v (!b)) ∧ SeqAt.EqAt A s u v b
  | 0, _, _, _, _, _, _, _, _, h, _, _, _, _, _ => by cases h
  | n + 1, d, e, b, x, y, u, v, A, h, p, q, rx, ry, hu => by
    have same := deq_same I hS hK (n + 1) d e b
    have items : ∀ {xs ys : List V} {us vs : List Value} {ds es : List D} {c : Nat → Bool}, RepAll g F xs ds → RepAll g F ys es → Vals xs us → Vals ys vs → (∀ (j : Nat) (d e : D), ds[j]? = some d → es[j]? = some e → deqF n d e = some (c j)) → ∀ j (h1 : j < us.toArray.size) (h2 : j < vs.toArray.size), SeqAt.EqAt A.in1 s us.toArray[j] vs.toArray[j] (c j) := by
      intro xs ys us vs ds es c r1 r2 w1 w2 hc j h1 h2
      have l1 := r1.length
      have l2 := r2.length
      have m1 := w1.length
      have m2 := w2.length
      rw [List.size_toArray] at h1 h2
      have hd : ds[j]? = some ds[j] := List.getElem?_eq_getElem (by omega)
      have he : es[j]? = some es[j] := List.getElem?_eq_getElem (by omega)
      obtain ⟨x', hx, rx'⟩ := r1.get hd
      obtain ⟨y', hy, ry'⟩ := r2.get he
      obtain ⟨u', hu', ru'⟩ := w1.get hx
      obtain ⟨v', hv', rv'⟩ := w2.get hy
      have z1 : us.toArray[j] = u' := by
        have := List.getElem?_eq_some_iff.mp hu'
        simpa using this.2
      have z2 : vs.toArray[j] = v' := by
        have := List.getElem?_eq_some_iff.mp hv'
        simpa using this.2
      rw [z1, z2]
      exact (deq_run I hS hK n _ _ _ x' y' u' v' A.in1 (hc j _ _ hd he) (.inl rx') (.inl ry') ru' rv' (by show A.units + 1 + n < cLine; omega)).2
    rcases deqF_inv h with ⟨a, c, h1, h2, h3⟩ | ⟨ds, es, rfl, rfl, h3⟩ | ⟨ds, es, r, rfl, rfl, h3, h4⟩
    · obtain ⟨r1, f1⟩ := toV_pk h1 p
      obtain ⟨r2, f2⟩ := toV_pk h2 q
      subst r1; subst r2; subst h3
      exact ⟨rc_flat rx ry f1 f2, eqAt_V rx ry f1 f2⟩
    · obtain ⟨a, xs, rfl, e1, r1⟩ := p.lst hS
      obtain ⟨a', ys, rfl, e2, r2⟩ := q.lst hS
      obtain rfl : u = .ref a := rx
      obtain rfl : v = .ref a' := ry
      obtain ⟨us, w1, ⟨o1, n1, p1, p2, _, p3⟩, _⟩ := I.list (SqL.of e1)
      obtain ⟨vs, w2, ⟨o2, n2, q1, q2, _, q3⟩, _⟩ := I.list (SqL.of e2)
      have L1 : s.heap.IsList a us.toArray := ⟨o1, p1, p2, n1, p3⟩
      have L2 : s.heap.IsList a' vs.toArray := ⟨o2, q1, q2, n2, q3⟩
      have rc : SeqAt.RcAt A s (.ref a) (.ref a') b ∧ SeqAt.RcNeAt A s (.ref a) (.ref a') (!b) := by
        rcases h3 with ⟨hl, h3⟩ | ⟨hl, h3⟩
        · obtain ⟨c, hb, hc⟩ := deqL_all h3
          have hsz : us.toArray.size = vs.toArray.size := by
            have := r1.length; have := r2.length; have := w1.length; have := w2.length
            simp only [List.size_toArray]; omega
          have hr : min ds.length es.length = us.toArray.size := by
            have := r1.length; have := w1.length
            simp only [List.size_toArray]; omega
          rw [hb, hr]
          exact ⟨SeqAt.RcAt.lists L1 L2 hsz (by omega) (items r1 r2 w1 w2 hc), SeqAt.RcNeAt.lists L1 L2 hsz (by omega) (items r1 r2 w1 w2 hc)⟩
        · have hsz : (us.toArray.size != vs.toArray.size) = true := by
            have := r1.length; have := r2.length; have := w1.length; have := w2.length
            simp only [List.size_toArray, bne_iff_ne]; omega
          subst h3
          exact ⟨SeqAt.RcAt.lists_lengths L1 L2 hsz (by omega), SeqAt.RcNeAt.lists_lengths L1 L2 hsz (by omega)⟩
      refine ⟨rc, ?_⟩
      by_cases z : a = a'
      · subst z
        rw [same _ h p q]
        exact .same _
      · exact SeqAt.EqAt.of_refs z rc.1
    · obtain ⟨a, xs, rfl, e1, r1⟩ := p.tup hS
      obtain ⟨a', ys, rfl, e2, r2⟩ := q.tup hS
      obtain rfl : u = .ref a := rx
      obtain rfl : v = .ref a' := ry
      rw [← hK] at e1 e2
      obtain ⟨us, w1, ⟨o1, p1, p2, n1, p3⟩, _⟩ := I.tuple e1
      obtain ⟨vs, w2, ⟨o2, q1, q2, n2, q3⟩, _⟩ := I.tuple e2
      have L1 : s.heap.IsTuple a us.toArray := ⟨o1, p1, p2, n1, p3⟩
      have L2 : s.heap.IsTuple a' vs.toArray := ⟨o2, q1, q2, n2, q3⟩
      obtain ⟨c, hb, hc⟩ := deqL_all h3
      have e3 : min ds.length es.length = min us.toArray.size vs.toArray.size := by
        have := r1.length; have := r2.length; have := w1.length; have := w2.length
        simp only [List.size_toArray]; omega
      have e4 : decide (ds.length = es.length) = (us.toArray.size == vs.toArray.size) := by
        have := r1.length; have := r2.length; have := w1.length; have := w2.length
        rw [Bool.eq_iff_iff]
        simp only [List.size_toArray, decide_eq_true_eq, beq_iff_eq]; omega
      have rc : SeqAt.RcAt A s (.ref a) (.ref a') b ∧ SeqAt.RcNeAt A s (.ref a) (.ref a') (!b) := by
        rw [h4, hb, e3, e4]
        exact ⟨SeqAt.RcAt.tuples L1 L2 (by omega) (items r1 r2 w1 w2 hc), SeqAt.RcNeAt.tuples L1 L2 (by omega) (items r1 r2 w1 w2 hc)⟩
      refine ⟨rc, ?_⟩
      by_cases z : a = a'
      · subst z
        rw [same _ h p q]
        exact .same _
      · exact SeqAt.EqAt.of_refs z rc.1
def eqD (x y : D) : Option Vr := (deqF 60 x y).map fun b => .sh (.bl b)
def neD (x y : D) : Option Vr := (deqF 60 x y).map fun b => .sh (.bl (!b))
def rEqL (g : G) : R2 := fun x y H Q => ∃ F d e b, Sub F H ∧ Pk g F H x d ∧ Pk g F H y e ∧ deqF 60 d e = some b ∧ Q (.bl b) H
def rNeL (g : G) : R2 := fun x y H Q => ∃ F d e b, Sub F H ∧ Pk g F H x d ∧ Pk g F H y e ∧ deqF 60 d e = some b ∧ Q (.bl (!b)) H
theorem op_eqL {k : Nat} (o : XO g k X) : OpR X (compareOp .Eq) (rEqL g) := by
  intro pins s σ H x y v u Q I rx ry ⟨F, d, e, b, hS, p, q, h, k⟩
  exact (deq_run I hS o.K 60 d e b x y v u X.A h p q rx ry (by have := o.hu64; omega)).1.1 _ _ _ _ ⟨.bl b, H, I, rfl, k⟩
theorem op_neL {k : Nat} (o : XO g k X) : OpR X (compareOp .NotEq) (rNeL g) := by
  intro pins s σ H x y v u Q I rx ry ⟨F, d, e, b, hS, p, q, h, k⟩
  exact (deq_run I hS o.K 60 d e b x y v u X.A h p q rx ry (by have := o.hu64; omega)).1.2 _ _ _ _ ⟨.bl (!b), H, I, rfl, k⟩
theorem p_eq : Op2 g eqD (rEqL g) := by
  refine ⟨fun x y z e i => ?_, fun F H x y dx dy z Q s p q e n => ?_⟩
  · obtain ⟨b, _, rfl⟩ := Option.map_eq_some_iff.mp e
    exact fun z => nomatch z
  · obtain ⟨b, h, rfl⟩ := Option.map_eq_some_iff.mp e
    exact ⟨F, dx, dy, b, s, p, q, h, n F _ H (Ext.refl s) (.bl b)⟩
theorem p_ne : Op2 g neD (rNeL g) := by
  refine ⟨fun x y z e i => ?_, fun F H x y dx dy z Q s p q e n => ?_⟩
  · obtain ⟨b, _, rfl⟩ := Option.map_eq_some_iff.mp e
    exact fun z => nomatch z
  · obtain ⟨b, h, rfl⟩ := Option.map_eq_some_iff.mp e
    exact ⟨F, dx, dy, b, s, p, q, h, n F _ H (Ext.refl s) (.bl (!b))⟩
end
end RW
namespace RW
open PySem L2
section
variable {g : G} {X : Cx}
/-! ### ends of operations -/
theorem Fin.q {F H : Hp} {d : D} {Q : VK} (n : Fin g F H (.sh d) Q) (s : Sub F H) {v : V} (r : Rep g F v d) : Q v H := n F v H (Ext.refl s) r
theorem Fin.newT {F H : Hp} {ds : List D} {xs : List V} {Q : VK} (n : Fin g F H (.sh (.tup ds)) Q) (s : Sub F H) (r : RepAll g F xs ds) (p : Addr) (hp : H p = none) : Q (.ref p) (upd H p (.tup xs)) :=
  n _ _ _ (Ext.new s hp) (.tup upd_same (r.mono (upd_le (s.free hp))))
theorem Fin.newO {F H : Hp} {d : D} {o : HO} {Q : VK} (n : Fin g F H (.tmp d) Q) (s : Sub F H) (r : RepO g F o d) (p : Addr) (hp : H p = none) : Q (.ref p) (upd H p o) :=
  n F p o _ (Ext.tmp s hp) hp (s.free hp) upd_same r
theorem RepAll.app {F : Hp} : ∀ {xs ys : List V} {ds es : List D}, RepAll g F xs ds → RepAll g F ys es → RepAll g F (xs ++ ys) (ds ++ es)
  | _, _, _, _, .nil, h => h
  | _, _, _, _, .cons a b, h => .cons a (RepAll.app b h)
theorem RepAll.take {F : Hp} : ∀ {xs : List V} {ds : List D} (n : Nat), RepAll g F xs ds → RepAll g F (xs.take n) (ds.take n)
  | _, _, 0, _ => by simp; exact .nil
  | _, _, _ + 1, .nil => .nil
  | _, _, n + 1, .cons a b => .cons a (RepAll.take n b)
theorem RepAll.drop {F : Hp} : ∀ {xs : List V} {ds : List D} (n : Nat), RepAll g F xs ds → RepAll g F (xs.drop n) (ds.drop n)
  | _, _, 0, h => h
  | _, _, _ + 1, .nil => .nil
  | _, _, n + 1, .cons a b => RepAll.drop n b
theorem RepAll.rep {F : Hp} {xs : List V} {ds : List D} (h : RepAll g F xs ds) : ∀ n : Nat, RepAll g F (List.replicate n xs).flatten (List.replicate n ds).flatten
  | 0 => .nil
  | n + 1 => by simp only [List.replicate_succ, List.flatten_cons]; exact h.app (RepAll.rep h n)
/-! ### + -/
def addD : D → D → Option Vr
  | .int i, .int j => some (.sh (.int (i + j)))
  | .str x, .str y => if x.length + y.length ≤ sizeLine then some (.sh (.str (x ++ y))) else none
  | .lst a, .lst b => if a.length + b.length ≤ sizeLine then some (.tmp (.lst (a ++ b))) else none
  | .tup a, .tup b => if a.length + b.length ≤ sizeLine then some (.sh (.tup (a ++ b))) else none
  | _, _ => none
def rAddD (K : PySem.W.Frag) : R2 := fun x y H Q => ((rI0 fun i j => .int (i + j)) x y H Q ∨ (∃ i j, x = .str i ∧ y = .str j ∧ i.length + j.length ≤ sizeLine ∧ Q (.str (i ++ j)) H)) ∨ (rCat x y H Q ∨ rCatA K x y H Q)
theorem op_addD : OpR X (binaryOp .Add) (rAddD X.K) := OpR.or (OpR.or op_add op_add_str) (OpR.or op_cat op_catA)
theorem p_addD : Op2 g addD (rAddD g.K) := by
  refine ⟨fun x y z e i => ?_, fun F H x y dx dy z Q s p q e n => ?_⟩
  · unfold addD at e
    split at e <;> first | cases e; exact fun z => nomatch z | (split at e <;> first | cases e; exact fun z => nomatch z | cases e) | cases e
  · unfold addD at e
    split at e
    · cases e
      obtain rfl := p.int
      obtain rfl := q.int
      exact .inl (.inl ⟨_, _, rfl, rfl, n.q s (.int _)⟩)
    · split at e
      · cases e
        obtain rfl := p.str
        obtain rfl := q.str
        exact .inl (.inr ⟨_, _, rfl, rfl, by assumption, n.q s (.str _)⟩)
      · cases e
    · split at e
      · cases e
        obtain ⟨a, xs, rfl, e1, r1⟩ := p.lst s
        obtain ⟨b, ys, rfl, e2, r2⟩ := q.lst s
        exact .inr (.inl ⟨a, b, xs, ys, rfl, rfl, e1, e2, by rw [r1.length, r2.length]; assumption, fun p hp => n.newO s (.lst (r1.app r2)) p hp⟩)
      · cases e
    · split at e
      · cases e
        obtain ⟨a, xs, rfl, e1, r1⟩ := p.tup s
        obtain ⟨b, ys, rfl, e2, r2⟩ := q.tup s
        refine .inr (.inr ⟨a, b, xs, ys, rfl, rfl, e1, e2, by rw [r1.length, r2.length]; assumption, fun z => ?_, fun _ z => ?_, fun _ _ p hp => n.newT s (r1.app r2) p hp⟩)
        · subst z
          cases r1
          rcases q with q | ⟨_, _, _, _, q⟩
          · exact n.q s q
          · cases q
        · subst z
          cases r2
          rcases p with p | ⟨_, _, _, _, p⟩
          · refine n.q s ?_
            simpa using p
          · cases p
      · cases e
    · cases e
theorem d_add {a b : Expr} {ma mb : M g.R.S Vr} {pos : Pos} {k : Nat} (o : XO g k X) (ha : DE g X a ma) (hb : DE g X b mb) : DE g X (.BinOp a .Add b pos) (mOp2 addD ma mb) := d_bin (by rw [← o.K]; exact op_addD) p_addD ha hb
theorem d_sub {a b : Expr} {ma mb : M g.R.S Vr} {pos : Pos} (ha : DE g X a ma) (hb : DE g X b mb) : DE g X (.BinOp a .Sub b pos) (mOp2 (o2I fun i j => some (.int (i - j))) ma mb) := d_bin op_sub p_sub ha hb
theorem d_mod {a b : Expr} {ma mb : M g.R.S Vr} {pos : Pos} (ha : DE g X a ma) (hb : DE g X b mb) : DE g X (.BinOp a .Mod b pos) (mOp2 (o2I iMod) ma mb) := d_bin op_mod p_mod ha hb
theorem d_div {a b : Expr} {ma mb : M g.R.S Vr} {pos : Pos} (ha : DE g X a ma) (hb : DE g X b mb) : DE g X (.BinOp a .FloorDiv b pos) (mOp2 (o2I iDiv) ma mb) := d_bin op_fdiv p_div ha hb
theorem d_pow {a b : Expr} {ma mb : M g.R.S Vr} {pos : Pos} (ha : DE g X a ma) (hb : DE g X b mb) : DE g X (.BinOp a .Pow b pos) (mOp2 (o2I iPow) ma mb) := d_bin op_pow p_pow ha hb
/-! ### * -/
def mulD : D → D → Option Vr
  | .int i, .int j => (iMul i j).map .sh
  | .lst a, .int k => if k.natAbs ≤ 16777216 ∧ a.length * k.toNat ≤ sizeLine then some (.tmp (.lst (List.replicate k.toNat a).flatten)) else none
  | _, _ => none
theorem p_mulD : Op2 g mulD (fun x y H Q => rI CMul (fun i j => .int (i * j)) x y H Q ∨ rRep x y H Q) := by
  refine ⟨fun x y z e i => ?_, fun F H x y dx dy z Q s p q e n => ?_⟩
  · unfold mulD at e
    split at e
    · obtain ⟨d, _, rfl⟩ := Option.map_eq_some_iff.mp e; exact fun z => nomatch z
    · split at e
      · cases e; exact fun z => nomatch z
      · cases e
    · cases e
  · unfold mulD at e
    split at e
    · obtain ⟨d, h, rfl⟩ := Option.map_eq_some_iff.mp e
      obtain rfl := p.int
      obtain rfl := q.int
      unfold iMul at h
      split at h
      · rename_i hc
        cases h; exact .inl ⟨_, _, rfl, rfl, hc.imp (fun h => ⟨by omega, by omega⟩) (fun h => ⟨by omega, by omega⟩), n.q s (.int _)⟩
      · cases h
    · split at e
      · rename_i h
        cases e
        obtain ⟨a, xs, rfl, e1, r1⟩ := p.lst s
        obtain rfl := q.int
        exact .inr ⟨a, _, xs, rfl, rfl, e1, by omega, by omega, by rw [r1.length]; exact h.2, fun p hp => n.newO s (.lst (r1.rep _)) p hp⟩
      · cases e
    · cases e
theorem d_mul {a b : Expr} {ma mb : M g.R.S Vr} {pos : Pos} (ha : DE g X a ma) (hb : DE g X b mb) : DE g X (.BinOp a .Mult b pos) (mOp2 mulD ma mb) := d_bin (OpR.or op_mul op_rep) p_mulD ha hb
def negD : D → Option Vr
  | .int i => some (.sh (.int (-i)))
  | _ => none
theorem d_neg {a : Expr} {ma : M g.R.S Vr} {pos : Pos} (ha : DE g X a ma) : DE g X (.UnaryOp .USub a pos) (mOp1 negD ma) := by
  refine d_un un_neg ⟨fun x z e i => ?_, fun F H x dx z Q s p e n => ?_⟩ ha
  · cases x <;> cases e
    exact fun z => nomatch z
  · cases dx <;> cases e
    obtain rfl := p.int
    exact ⟨_, rfl, n.q s (.int _)⟩
/-! ### ==, !=, < -/
theorem d_eq {a b : Expr} {ma mb : M g.R.S Vr} {pos : Pos} {k : Nat} (o : XO g k X) (ha : DE g X a ma) (hb : DE g X b mb) : DE g X (.Compare a [.Eq] [b] pos) (mOp2 eqD ma mb) := d_cmp (op_eqL o) p_eq ha hb (nobehind _ (by decide) (by decide))
theorem t_eq {a b : Expr} {ma mb : M g.R.S Vr} {pos : Pos} {k : Nat} (o : XO g k X) (ha : DE g X a ma) (hb : DE g X b mb) : DT g X (.Compare a [.Eq] [b] pos) (mOp2 eqD ma mb) := t_cmp (op_eqL o) p_eq ha hb (nobehind _ (by decide) (by decide))
theorem d_ne {a b : Expr} {ma mb : M g.R.S Vr} {pos : Pos} {k : Nat} (o : XO g k X) (ha : DE g X a ma) (hb : DE g X b mb) : DE g X (.Compare a [.NotEq] [b] pos) (mOp2 neD ma mb) := d_cmp (op_neL o) p_ne ha hb (nobehind _ (by decide) (by decide))
theorem t_ne {a b : Expr} {ma mb : M g.R.S Vr} {pos : Pos} {k : Nat} (o : XO g k X) (ha : DE g X a ma) (hb : DE g X b mb) : DT g X (.Compare a [.NotEq] [b] pos) (mOp2 neD ma mb) := t_cmp (op_neL o) p_ne ha hb (nobehind _ (by decide) (by decide))
def ltD : D → D → Option Vr
  | .int i, .int j => some (.sh (.bl (decide (i < j))))
  | .str x, .str y => some (.sh (.bl (decide (x.cps.toList < y.cps.toList))))
  | _, _ => none
theorem op_ltD : OpR X (compareOp .Lt) (fun x y H Q => (rI0 fun i j => .bl (decide (i < j))) x y H Q ∨ ∃ i j, x = .str i ∧ y = .str j ∧ Q (.bl (decide (i.cps.toList < j.cps.toList))) H) := OpR.or op_lt op_lt_str
theorem p_ltD : Op2 g ltD (fun x y H Q => (rI0 fun i j => .bl (decide (i < j))) x y H Q ∨ ∃ i j, x = .str i ∧ y = .str j ∧ Q (.bl (decide (i.cps.toList < j.cps.toList))) H) := by
  refine ⟨fun x y z e i => ?_, fun F H x y dx dy z Q s p q e n => ?_⟩
  · unfold ltD at e
    split at e <;> cases e <;> exact fun z => nomatch z
  · unfold ltD at e
    split at e
    · cases e
      obtain rfl := p.int
      obtain rfl := q.int
      exact .inl ⟨_, _, rfl, rfl, n.q s (.bl _)⟩
    · cases e
      obtain rfl := p.str
      obtain rfl := q.str
      exact .inr ⟨_, _, rfl, rfl, n.q s (.bl _)⟩
    · cases e
theorem d_lt {a b : Expr} {ma mb : M g.R.S Vr} {pos : Pos} (ha : DE g X a ma) (hb : DE g X b mb) : DE g X (.Compare a [.Lt] [b] pos) (mOp2 ltD ma mb) := d_cmp op_ltD p_ltD ha hb (nobehind _ (by decide) (by decide))
theorem t_lt {a b : Expr} {ma mb : M g.R.S Vr} {pos : Pos} (ha : DE g X a ma) (hb : DE g X b mb) : DT g X (.Compare a [.Lt] [b] pos) (mOp2 ltD ma mb) := t_cmp op_ltD p_ltD ha hb (nobehind _ (by decide) (by decide))
abbrev leI : D → D → Option Vr := o2I fun i j => some (.bl (decide (i ≤ j)))
abbrev gtI : D → D → Option Vr := o2I fun i j => some (.bl (decide (j < i)))
abbrev geI : D → D → Option Vr := o2I fun i j => some (.bl (decide (j ≤ i)))
theorem t_ge {a b : Expr} {ma mb : M g.R.S Vr} {pos : Pos} (ha : DE g X a ma) (hb : DE g X b mb) : DT g X (.Compare a [.GtE] [b] pos) (mOp2 geI ma mb) := t_cmp op_ge p_ge ha hb (nobehind _ (by decide) (by decide))
/-- 1 <= x <= n -/
theorem d_lele {a b c : Expr} {ma mb mc : M g.R.S Vr} {pos : Pos} (ha : DE g X a ma) (hb : DE g X b mb) (hc : DE g X c mc) (hm : lastMarks [.LtE, .LtE] [b, c] = false := by with_unfolding_all rfl) : DE g X (.Compare a [.LtE, .LtE] [b, c] pos) (mChain leI leI ma mb mc) := d_chain op_le p_le op_le p_le ha hb hc hm
/-! ### is None -/
def isN : D → Option Vr
  | .non => some (.sh (.bl true))
  | _ => some (.sh (.bl false))
theorem pk_non {F H : Hp} {v : V} {d : D} (p : Pk g F H v d) : decide (v = .non) = (match d with | .non => true | _ => false) := by
  rcases p with p | ⟨a, o, rfl, _, p⟩
  · cases p with
    | ref _ q => cases q <;> simp
    | _ => simp
  · cases p <;> simp
theorem tIs_of {ma : M g.R.S Vr} {σ : St} {H : Hp} {Q : VK} (h : tM g (mOp1 isN ma) σ H Q) : tIsN (tM g ma) σ H Q := by
  refine tOp1_of (r := fun x H Q => Q (.bl (decide (x = .non))) H) ⟨fun x z e i => ?_, fun F H x dx z Q s p e n => ?_⟩ h
  · cases x <;> (cases e; exact fun z => nomatch z)
  · rw [pk_non p]
    cases dx <;> (cases e; exact n.q s (.bl _))
theorem t_isN {a : Expr} {ma : M g.R.S Vr} {j pos' pos} (ha : DE g X a ma) : DT g X (.Compare a [.Is] [.Constant .none j pos'] pos) (mOp1 isN ma) := PT.imp (pt_cmp (pc_isN ha)) fun _ _ _ h => tTest_of (t := tIsN (tM g ma)) (fun _ _ _ h => tIs_of h) h
/-! ### in -/
def toVs : List D → Option (List V)
  | [] => some []
  | d :: ds => (toV d).bind fun v => (toVs ds).map fun vs => v :: vs
/-- x in y -/
def inB : D → D → Option Bool
  | x, .dct false es => match x with
    | .int i => some (getE es (.int i)).isSome
    | .str z => some (getE es (.str z)).isSome
    | .non => some false
    | _ => none
  | .str x, .str y => match x.cps.toList with
    | [c] => some (decide (c ∈ y.cps.toList))
    | _ => none
  | x, .lst ds => (toV x).bind fun v => (toVs ds).map fun vs => inV v vs
  | x, .tup ds => (toV x).bind fun v => (toVs ds).map fun vs => inV v vs
  | _, _ => none
def inD (x y : D) : Option Vr := (inB x y).map fun b => .sh (.bl b)
def ninD (x y : D) : Option Vr := (inB x y).map fun b => .sh (.bl (!b))
theorem toVs_pk {F : Hp} : ∀ {xs : List V} {ds : List D} {vs : List V}, RepAll g F xs ds → toVs ds = some vs → xs = vs ∧ vs.all flatV = true
  | _, _, _, .nil, e => by cases e; exact ⟨rfl, rfl⟩
  | _, _, _, .cons a b, e => by
    unfold toVs at e
    obtain ⟨v, e1, e⟩ := Option.bind_eq_some_iff.mp e
    obtain ⟨vs, e2, e⟩ := Option.map_eq_some_iff.mp e
    cases e
    obtain ⟨h1, h2⟩ := toV_pk (H := F) e1 (.inl a)
    obtain ⟨h3, h4⟩ := toVs_pk b e2
    exact ⟨by rw [h1, h3], by simp [h2, h4]⟩
/-- what in asks of a sequence or a text -/
def rInQ (K : PySem.W.Frag) (f : Bool → Bool) : R2 := fun x y H Q => (∃ p xs, y = .ref p ∧ (SqL K H p xs ∨ SqT K H p xs) ∧ flatV x = true ∧ xs.all flatV = true ∧ Q (.bl (f (inV x xs))) H) ∨ ∃ (c : Nat) (z : Str), x = .str ⟨#[c]⟩ ∧ y = .str z ∧ Q (.bl (f (decide (c ∈ z.cps.toList)))) H
theorem op_inQ : OpR X (compareOp .In) (rInQ X.K id) := by
  intro pins s σ H x y v u Q I rx ry h
  rcases h with ⟨p, xs, h1, h2, h3, h4, h5⟩ | h
  · exact op_in_seq pins s σ H x y v u Q I rx ry ⟨p, xs, h1, h2, h3, h4, h5⟩
  · exact op_in_sign pins s σ H x y v u Q I rx ry h
theorem op_ninQ : OpR X (compareOp .NotIn) (rInQ X.K (!·)) := by
  intro pins s σ H x y v u Q I rx ry h
  rcases h with ⟨p, xs, h1, h2, h3, h4, h5⟩ | h
  · exact op_notIn_seq pins s σ H x y v u Q I rx ry ⟨p, xs, h1, h2, h3, h4, h5⟩
  · exact op_notIn_sign pins s σ H x y v u Q I rx ry h
def seqIn (f : Bool → Bool) (x y : D) : Option Vr := match y with
  | .dct _ _ => none
  | y => (inB x y).map fun b => .sh (.bl (f b))
def dctIn (f : Bool → Bool) (x y : D) : Option Vr := match y with
  | .dct t es => (inB x (.dct t es)).map fun b => .sh (.bl (f b))
  | _ => none
theorem p_seqIn {f : Bool → Bool} : Op2 g (seqIn f) (rInQ g.K f) := by
  refine ⟨fun x y z e i => ?_, fun F H x y dx dy z Q s p q e n => ?_⟩
  · unfold seqIn at e
    split at e
    · cases e
    · obtain ⟨b, _, rfl⟩ := Option.map_eq_some_iff.mp e
      exact fun z => nomatch z
  · unfold seqIn at e
    split at e
    · cases e
    · rename_i hnd
      obtain ⟨b, h, rfl⟩ := Option.map_eq_some_iff.mp e
      have fl : ∀ {ds : List D} {xs : List V}, RepAll g F xs ds → ((toV dx).bind fun v => (toVs ds).map fun vs => inV v vs) = some b → flatV x = true ∧ xs.all flatV = true ∧ inV x xs = b := fun {ds xs} r e => by
        obtain ⟨v, e1, e⟩ := Option.bind_eq_some_iff.mp e
        obtain ⟨vs, e2, e⟩ := Option.map_eq_some_iff.mp e
        obtain ⟨h1, h2⟩ := toV_pk e1 p
        obtain ⟨h3, h4⟩ := toVs_pk r e2
        subst h1; subst h3
        exact ⟨h2, h4, e⟩
      cases dy with
      | lst ds =>
        have h' : ((toV dx).bind fun v => (toVs ds).map fun vs => inV v vs) = some b := by cases dx <;> exact h
        obtain ⟨a, xs, rfl, e1, r1⟩ := q.lst s
        obtain ⟨h1, h2, h3⟩ := fl r1 h'
        exact .inl ⟨a, xs, rfl, .inl (SqL.of e1), h1, h2, by rw [h3]; exact n.q s (.bl _)⟩
      | tup ds =>
        have h' : ((toV dx).bind fun v => (toVs ds).map fun vs => inV v vs) = some b := by cases dx <;> exact h
        obtain ⟨a, xs, rfl, e1, r1⟩ := q.tup s
        obtain ⟨h1, h2, h3⟩ := fl r1 h'
        exact .inl ⟨a, xs, rfl, .inr e1, h1, h2, by rw [h3]; exact n.q s (.bl _)⟩
      | str y' =>
        cases dx with
        | str x' =>
          obtain rfl := p.str
          obtain rfl := q.str
          replace h : (match x'.cps.toList with | [c] => some (decide (c ∈ y'.cps.toList)) | _ => none) = some b := h
          split at h
          · rename_i c hc
            cases h
            have : x' = ⟨#[c]⟩ := by
              cases x' with
              | mk a => congr; exact Array.toList_inj.mp (by simpa using hc)
            subst this
            exact .inr ⟨c, y', rfl, rfl, n.q s (.bl _)⟩
          · cases h
        | _ => cases h
      | dct t es => exact (hnd t es rfl).elim
      | _ => cases dx <;> cases h
def tInD (f : Bool → Bool) (ty td : TE) : TE := fun σ H Q => ty σ H fun y H1 => td σ H1 fun x H2 => (∃ a o, x = .ref a ∧ DGet H2 a y o ∧ Q (.bl (f o.isSome)) H2) ∨ ∃ a kvs, x = .ref a ∧ y = .non ∧ Rd H2 a (.dK kvs) ∧ Q (.bl (f false)) H2
theorem tInD_of {f : Bool → Bool} {ma mb : M g.R.S Vr} {σ : St} {H : Hp} {Q : VK} (h : tM g (mOp2 (dctIn f) ma mb) σ H Q) : tInD f (tM g ma) (tM g mb) σ H Q := by
  refine tOp2_of (r := fun y x H2 Q => (∃ a o, x = .ref a ∧ DGet H2 a y o ∧ Q (.bl (f o.isSome)) H2) ∨ ∃ a kvs, x = .ref a ∧ y = .non ∧ Rd H2 a (.dK kvs) ∧ Q (.bl (f false)) H2) ⟨fun x y z e i => ?_, fun F H x y dx dy z Q s p q e n => ?_⟩ h
  · unfold dctIn at e
    split at e
    · obtain ⟨b, _, rfl⟩ := Option.map_eq_some_iff.mp e
      exact fun z => nomatch z
    · cases e
  · unfold dctIn at e
    split at e
    · rename_i t es
      obtain ⟨b, h, rfl⟩ := Option.map_eq_some_iff.mp e
      cases t with
      | true => cases dx <;> cases h
      | false =>
        obtain ⟨a, kvs, rfl, e1, r1⟩ := q.dK s
        have key : ∀ k : Key, (getE es (keyD k)).isSome = (valV kvs k).isSome := fun k => by
          obtain ⟨h1, h2⟩ := r1.val k
          cases h3 : getE es (keyD k) with
          | none => rw [h2 h3]; rfl
          | some d => obtain ⟨v, h4, _⟩ := h1 d h3; rw [h4]; rfl
        cases dx with
        | int i =>
          cases h
          obtain rfl := p.int
          refine .inl ⟨a, _, rfl, .inl ⟨kvs, .inl i, e1, rfl, rfl⟩, ?_⟩
          rw [← key]
          exact n.q s (.bl _)
        | str x =>
          cases h
          obtain rfl := p.str
          refine .inl ⟨a, _, rfl, .inl ⟨kvs, .inr x, e1, rfl, rfl⟩, ?_⟩
          rw [← key]
          exact n.q s (.bl _)
        | non =>
          cases h
          obtain rfl := p.non
          exact .inr ⟨a, kvs, rfl, rfl, e1, n.q s (.bl _)⟩
        | _ => cases h
    · cases e
/-- by what y is -/
theorem in_split {f : Bool → Bool} {ma mb : M g.R.S Vr} {σ : St} {H : Hp} {Q : VK} (h : tM g (mOp2 (fun x y => (inB x y).map fun b => .sh (.bl (f b))) ma mb) σ H Q) : tM g (mOp2 (seqIn f) ma mb) σ H Q ∨ tM g (mOp2 (dctIn f) ma mb) σ H Q := by
  obtain ⟨F, s, res, s', I, e, k⟩ := h
  unfold mOp2 at e
  obtain ⟨p, e1, e⟩ := Option.bind_eq_some_iff.mp e
  obtain ⟨q, e2, e⟩ := Option.bind_eq_some_iff.mp e
  obtain ⟨x, e3, e⟩ := Option.bind_eq_some_iff.mp e
  obtain ⟨y, e4, e⟩ := Option.bind_eq_some_iff.mp e
  obtain ⟨z, e5, e⟩ := Option.map_eq_some_iff.mp e
  cases e
  have build : ∀ f' : D → D → Option Vr, f' x y = some res → mOp2 f' ma mb s = some (res, q.2) := fun f' hf => by
    unfold mOp2
    simp only [e1, e2, e3, e4, hf, Option.bind_some, Option.map_some]
  cases y with
  | dct t es => exact .inr ⟨F, s, res, q.2, I, build _ e5, k⟩
  | _ => exact .inl ⟨F, s, res, q.2, I, build _ e5, k⟩
theorem d_in {a b : Expr} {ma mb : M g.R.S Vr} {pos : Pos} {k : Nat} (o : XO g k X) (ha : DE g X a ma) (hb : DE g X b mb) (hm : behindInMarks .In b = false := by with_unfolding_all rfl) : DE g X (.Compare a [.In] [b] pos) (mOp2 inD ma mb) :=
  PE.imp (PE.or (pe_cmpR op_inQ ha hb hm) (pe_cmp (pc_dinN o.hu ha hb) hm)) fun σ H Q h => (in_split (f := id) h).elim (fun h => .inl (tOp2_of (by rw [o.K]; exact p_seqIn) h)) (fun h => .inr (tInD_of (f := id) h))
theorem t_in {a b : Expr} {ma mb : M g.R.S Vr} {pos : Pos} {k : Nat} (o : XO g k X) (ha : DE g X a ma) (hb : DE g X b mb) (hm : behindInMarks .In b = false := by with_unfolding_all rfl) : DT g X (.Compare a [.In] [b] pos) (mOp2 inD ma mb) := by
  refine PT.imp (PT.or (pt_cmpR op_inQ ha hb hm) (pt_cmp (pc_dinN o.hu ha hb) hm)) fun σ H Q h => ?_
  have h := tTest_of (t := tM g (mOp2 inD ma mb)) (fun _ _ _ h => h) h
  exact (in_split (f := id) h).elim (fun h => .inl (tOp2_of (by rw [o.K]; exact p_seqIn) h)) (fun h => .inr (tInD_of (f := id) h))
theorem t_nin {a b : Expr} {ma mb : M g.R.S Vr} {pos : Pos} {k : Nat} (o : XO g k X) (ha : DE g X a ma) (hb : DE g X b mb) (hm : behindInMarks .NotIn b = false := by with_unfolding_all rfl) : DT g X (.Compare a [.NotIn] [b] pos) (mOp2 ninD ma mb) := by
  refine PT.imp (PT.or (pt_cmpR op_ninQ ha hb hm) (pt_cmp (pc_dnotinN o.hu ha hb) hm)) fun σ H Q h => ?_
  have h := tTest_of (t := tM g (mOp2 ninD ma mb)) (fun _ _ _ h => h) h
  exact (in_split (f := (!·)) h).elim (fun h => .inl (tOp2_of (by rw [o.K]; exact p_seqIn) h)) (fun h => .inr (tInD_of (f := (!·)) h))
end
end RW
namespace RW
open PySem L2
/-! ### texts in order -/
def leS (a b : Str) : Bool := !PySem.Spec.ltCps b.cps.toList a.cps.toList
def sortS (xs : List Str) : List Str := xs.mergeSort leS
theorem lt_irrefl : ∀ a : List Nat, PySem.Spec.ltCps a a = false
  | [] => rfl
  | a :: r => by simp [PySem.Spec.ltCps, lt_irrefl r]
theorem lt_trans : ∀ {a b c : List Nat}, PySem.Spec.ltCps a b = true → PySem.Spec.ltCps b c = true → PySem.Spec.ltCps a c = true
  | [], [], _, h, _ => by cases h
  | [], _ :: _, [], _, h => by cases h
  | [], _ :: _, _ :: _, _, _ => rfl
  | _ :: _, [], _, h, _ => by cases h
  | _ :: _, _ :: _, [], _, h => by cases h
  | a :: r, b :: t, c :: u, h1, h2 => by
    simp only [PySem.Spec.ltCps, Bool.or_eq_true, decide_eq_true_eq, Bool.and_eq_true, beq_iff_eq] at h1 h2 ⊢
    rcases h1 with h1 | ⟨h1, h1'⟩ <;> rcases h2 with h2 | ⟨h2, h2'⟩
    · exact .inl (by omega)
    · exact .inl (by omega)
    · exact .inl (by omega)
    · exact .inr ⟨by omega, lt_trans h1' h2'⟩
theorem lt_tri : ∀ {a b : List Nat}, PySem.Spec.ltCps a b = false → PySem.Spec.ltCps b a = false → a = b
  | [], [], _, _ => rfl
  | [], _ :: _, h, _ => by cases h
  | _ :: _, [], _, h => by cases h
  | a :: r, b :: t, h1, h2 => by
    simp only [PySem.Spec.ltCps, Bool.or_eq_false_iff, decide_eq_false_iff_not, Bool.and_eq_false_iff, beq_eq_false_iff_ne] at h1 h2
    have e : a = b := by omega
    subst e
    have := lt_tri (a := r) (b := t) (by simpa using h1.2) (by simpa using h2.2)
    rw [this]
theorem Str.ext {a b : Str} (h : a.cps.toList = b.cps.toList) : a = b := by
  cases a; cases b; congr; exact Array.toList_inj.mp h
theorem leS_total (a b : Str) : (leS a b || leS b a) = true := by
  unfold leS
  cases h1 : PySem.Spec.ltCps b.cps.toList a.cps.toList with
  | false => rfl
  | true =>
    cases h2 : PySem.Spec.ltCps a.cps.toList b.cps.toList with
    | false => rfl
    | true => have := lt_trans h1 h2; rw [lt_irrefl] at this; cases this
theorem leS_trans (a b c : Str) (h1 : leS a b = true) (h2 : leS b c = true) : leS a c = true := by
  unfold leS at *
  simp only [Bool.not_eq_true'] at *
  cases h : PySem.Spec.ltCps c.cps.toList a.cps.toList with
  | false => rfl
  | true =>
    cases h3 : PySem.Spec.ltCps a.cps.toList b.cps.toList with
    | true => have := lt_trans h h3; rw [h2] at this; cases this
    | false =>
      have e := lt_tri h3 h1
      rw [e] at h; rw [h2] at h; cases h
theorem leS_anti {a b : Str} (h1 : leS a b = true) (h2 : leS b a = true) : a = b := by
  unfold leS at *
  simp only [Bool.not_eq_true'] at *
  exact Str.ext (lt_tri h2 h1)
theorem sortS_perm (xs : List Str) : (sortS xs).Perm xs := List.mergeSort_perm _ _
theorem sortS_pw (xs : List Str) : (sortS xs).Pairwise fun a b => leS a b = true := List.pairwise_mergeSort leS_trans leS_total xs
theorem risingS_pw : ∀ {xs : List Str} {p : Str}, PyProof.Rows.risingS p xs = true → (p :: xs).Pairwise fun a b => leS a b = true
  | [], p, _ => List.pairwise_singleton _ _
  | x :: r, p, h => by
    unfold PyProof.Rows.risingS at h
    obtain ⟨h1, h2⟩ := Bool.and_eq_true_iff.mp h
    have ih := risingS_pw h2
    refine List.pairwise_cons.mpr ⟨fun y hy => ?_, ih⟩
    rcases List.mem_cons.mp hy with rfl | hy
    · exact h1
    · exact leS_trans p x y h1 ((List.pairwise_cons.mp ih).1 y hy)
theorem sortS_eq {xs ys : List Str} (hp : ys.Perm xs) (h : PyProof.Rows.sortedS ys = true) : ys = sortS xs := by
  have pw : ys.Pairwise fun a b => leS a b = true := by
    cases ys with
    | nil => exact List.Pairwise.nil
    | cons y r => exact risingS_pw h
  exact List.Perm.eq_of_pairwise (le := fun a b => leS a b = true) (fun a b _ _ h1 h2 => leS_anti h1 h2) pw (sortS_pw xs) (hp.trans (sortS_perm xs).symm)
def strsOf : List D → Option (List Str)
  | [] => some []
  | .str x :: ds => (strsOf ds).map fun xs => x :: xs
  | _ => none
theorem strsOf_eq : ∀ {ds : List D} {xs : List Str}, strsOf ds = some xs → ds = xs.map .str
  | [], _, h => by cases h; rfl
  | d :: ds, xs, h => by
    cases d with
    | str x =>
      obtain ⟨ys, h1, h2⟩ := Option.map_eq_some_iff.mp (show (strsOf ds).map (fun xs => x :: xs) = some xs from h)
      subst h2
      rw [strsOf_eq h1]; rfl
    | _ => cases h
section
variable {g : G} {X : Cx}
theorem rep_strs {F : Hp} : ∀ {vs : List V} {xs : List Str}, RepAll g F vs (xs.map .str) → vs = xs.map .str
  | _, [], h => by cases h; rfl
  | _, x :: xs, h => by
    cases h with
    | cons a b => rw [Pk.str (H := F) (.inl a), rep_strs b]; rfl
theorem all_strs {F : Hp} : ∀ xs : List Str, RepAll g F (xs.map V.str) (xs.map .str)
  | [] => .nil
  | _ :: xs => .cons (.str _) (all_strs xs)
/-! ### split by what the values are -/
theorem split2 {f f1 f2 : D → D → Option Vr} (hf : ∀ x y z, f x y = some z → f1 x y = some z ∨ f2 x y = some z) {ma mb : M g.R.S Vr} {σ : St} {H : Hp} {Q : VK} (h : tM g (mOp2 f ma mb) σ H Q) : tM g (mOp2 f1 ma mb) σ H Q ∨ tM g (mOp2 f2 ma mb) σ H Q := by
  obtain ⟨F, s, res, s', I, e, k⟩ := h
  unfold mOp2 at e
  obtain ⟨p, e1, e⟩ := Option.bind_eq_some_iff.mp e
  obtain ⟨q, e2, e⟩ := Option.bind_eq_some_iff.mp e
  obtain ⟨x, e3, e⟩ := Option.bind_eq_some_iff.mp e
  obtain ⟨y, e4, e⟩ := Option.bind_eq_some_iff.mp e
  obtain ⟨z, e5, e⟩ := Option.map_eq_some_iff.mp e
  cases e
  have build : ∀ f' : D → D → Option Vr, f' x y = some res → mOp2 f' ma mb s = some (res, q.2) := fun f' hf => by
    unfold mOp2
    simp only [e1, e2, e3, e4, hf, Option.bind_some, Option.map_some]
  rcases hf x y res e5 with h | h
  · exact .inl ⟨F, s, res, q.2, I, build _ h, k⟩
  · exact .inr ⟨F, s, res, q.2, I, build _ h, k⟩
/-! ### xs[i], d[k] -/
def idxS : D → D → Option Vr
  | .lst ds, .int i => (atI ds i).map .sh
  | .tup ds, .int i => (atI ds i).map .sh
  | .str x, .int i => if x.length ≤ sizeLine then (atI x.cps.toList i).map fun c => .sh (.str ⟨#[c]⟩) else none
  | _, _ => none
def idxK : D → D → Option Vr
  | .dct false es, k => (kOf k).bind fun key => (getE es (keyD key)).map .sh
  | _, _ => none
def idxD (x y : D) : Option Vr := match x with
  | .dct _ _ => idxK x y
  | _ => idxS x y
theorem atI_rep {F : Hp} {xs : List V} {ds : List D} {i : Int} {d : D} (r : RepAll g F xs ds) (h : atI ds i = some d) : ∃ x, atI xs i = some x ∧ Rep g F x d := by
  unfold atI at h ⊢
  rw [r.length]
  obtain ⟨j, h1, h2⟩ := Option.bind_eq_some_iff.mp h
  obtain ⟨x, h3, h4⟩ := r.get h2
  exact ⟨x, by rw [h1]; exact h3, h4⟩
theorem p_idxS : Op2 g idxS (rIx g.K) := by
  refine ⟨fun x y z e i => ?_, fun F H x y dx dy z Q s p q e n => ?_⟩
  · unfold idxS at e
    split at e
    · obtain ⟨d, _, rfl⟩ := Option.map_eq_some_iff.mp e; exact fun z => nomatch z
    · obtain ⟨d, _, rfl⟩ := Option.map_eq_some_iff.mp e; exact fun z => nomatch z
    · split at e
      · obtain ⟨d, _, rfl⟩ := Option.map_eq_some_iff.mp e; exact fun z => nomatch z
      · cases e
    · cases e
  · unfold idxS at e
    split at e
    · obtain ⟨d, h, rfl⟩ := Option.map_eq_some_iff.mp e
      obtain ⟨a, xs, rfl, e1, r1⟩ := p.lst s
      obtain rfl := q.int
      obtain ⟨v, h1, h2⟩ := atI_rep r1 h
      exact .inl ⟨a, xs, _, v, rfl, rfl, SqL.of e1, h1, n.q s h2⟩
    · obtain ⟨d, h, rfl⟩ := Option.map_eq_some_iff.mp e
      obtain ⟨a, xs, rfl, e1, r1⟩ := p.tup s
      obtain rfl := q.int
      obtain ⟨v, h1, h2⟩ := atI_rep r1 h
      exact .inr (.inl ⟨a, xs, _, v, rfl, rfl, e1, h1, n.q s h2⟩)
    · split at e
      · obtain ⟨c, h, rfl⟩ := Option.map_eq_some_iff.mp e
        obtain rfl := p.str
        obtain rfl := q.int
        exact .inr (.inr ⟨_, _, c, rfl, rfl, by assumption, h, n.q s (.str _)⟩)
      · cases e
    · cases e
theorem p_idxK : Op2 g idxK (fun x y H Q => ∃ a v, x = .ref a ∧ DGet H a y (some v) ∧ Q v H) := by
  refine ⟨fun x y z e i => ?_, fun F H x y dx dy z Q s p q e n => ?_⟩
  · unfold idxK at e
    split at e
    · obtain ⟨k, _, e⟩ := Option.bind_eq_some_iff.mp e
      obtain ⟨d, _, rfl⟩ := Option.map_eq_some_iff.mp e; exact fun z => nomatch z
    · cases e
  · unfold idxK at e
    split at e
    · obtain ⟨k, hk, e⟩ := Option.bind_eq_some_iff.mp e
      obtain ⟨d, h, rfl⟩ := Option.map_eq_some_iff.mp e
      obtain ⟨a, kvs, rfl, e1, r1⟩ := p.dK s
      obtain ⟨v, h1, h2⟩ := (r1.val k).1 d h
      have hy : y = kV k := by
        have := kOf_some hk
        subst this
        cases k with
        | inl i => exact q.int
        | inr x => exact q.str
      exact ⟨a, v, rfl, .inl ⟨kvs, k, e1, hy, h1.symm⟩, n.q s h2⟩
    · cases e
theorem d_idx {a b : Expr} {ma mb : M g.R.S Vr} {pos : Pos} {k : Nat} (o : XO g k X) (ha : DE g X a ma) (hb : DE g X b mb) (hs : PlainIx b := by intro _ _; rfl) (hs2 : NoSl b := by intro _ _; rfl) : DE g X (.Subscript a b pos) (mOp2 idxD ma mb) := by
  refine PE.imp (PE.or (pe_ix ix_seq ha hb hs) (pe_dget o.hu ha hb hs2)) fun σ H Q h => ?_
  rcases split2 (f1 := idxS) (f2 := idxK) (fun x y z e => by
    unfold idxD at e
    split at e
    · exact .inr e
    · exact .inl e) h with h | h
  · exact .inl (tOp2_of (by rw [o.K]; exact p_idxS) h)
  · exact .inr (tOp2_of p_idxK h)
/-! ### xs[i:j] -/
def tMO (g : G) (m : M g.R.S (Option Int)) : TO := fun σ H Q => ∃ F s o s', Sim g F s σ H ∧ m s = some (o, s') ∧ ∀ F' H', Sim g F' s' σ H' → Keep g F s σ H F' s' σ H' → Q o H'
theorem PO.imp {e : Option Expr} {t t' : TO} (h : PO X e t) (w : ∀ σ H Q, t' σ H Q → t σ H Q) : PO X e t' := ⟨fun pins s σ H Q I q => h.run pins s σ H Q I (w _ _ _ q)⟩
def mNoP {R : Type} : M R (Option Int) := fun s => some (none, s)
def mPt {R : Type} (ma : M R Vr) : M R (Option Int) := fun s => (ma s).bind fun p => match p.1 with
  | .sh (.int i) => some (some i, p.2)
  | _ => none
theorem o_none : PO X none (tMO g mNoP) := PO.imp po_none fun σ H Q ⟨F, s, o, s', I, e, k⟩ => by
  cases e
  exact k F H I Keep.refl
theorem o_some {e : Expr} {ma : M g.R.S Vr} (h : DE g X e ma) : PO X (some e) (tMO g (mPt ma)) := PO.imp (po_some h) fun σ H Q ⟨F, s, o, s', I, e, k⟩ => by
  unfold mPt at e
  obtain ⟨⟨r, s1⟩, e1, e⟩ := Option.bind_eq_some_iff.mp e
  cases r with
  | sh d => cases d with
    | int i =>
      cases e
      refine ⟨F, s, _, _, I, e1, fun F' v H' I' K' r => ?_⟩
      obtain rfl := Pk.int (H := H') (.inl r)
      exact ⟨i, rfl, k F' H' I' K'⟩
    | _ => cases e
  | _ => cases e
def cutL {α : Type} (xs : List α) (lo hi : Option Int) : List α := (xs.drop (HT.sIx xs.length 0 lo)).take (HT.sIx xs.length xs.length hi - HT.sIx xs.length 0 lo)
def cutD (d : D) (lo hi : Option Int) : Option Vr := match d with
  | .lst ds => some (.tmp (.lst (cutL ds lo hi)))
  | .tup ds => some (.sh (.tup (cutL ds lo hi)))
  | .str x => if x.length ≤ sizeLine then some (.sh (.str (cutS x lo hi))) else none
  | _ => none
def mSl {R : Type} (ma : M R Vr) (ml mh : M R (Option Int)) : M R Vr := fun s => (ma s).bind fun p => (ml p.2).bind fun q => (mh q.2).bind fun r => (pk (soft p.1) r.2).bind fun x => (cutD x q.1 r.1).map fun z => (z, r.2)
theorem cut_rep {F : Hp} {xs : List V} {ds : List D} (r : RepAll g F xs ds) (lo hi : Option Int) : RepAll g F (cutV xs lo hi) (cutL ds lo hi) := by
  unfold cutV cutL
  rw [r.length]
  exact (r.drop _).take _
theorem d_slice {e : Expr} {lo hi : Option Expr} {ma : M g.R.S Vr} {ml mh : M g.R.S (Option Int)} {p2 pos : Pos} {k : Nat} (o : XO g k X) (he : DE g X e ma) (hl : PO X lo (tMO g ml)) (hu : PO X hi (tMO g mh)) : DE g X (.Subscript e (.Slice lo hi none p2) pos) (mSl ma ml mh) := by
  refine PE.imp (pe_slice (SlR.or sl_list (SlR.or sl_tupA sl_str)) he hl hu) fun σ H Q ⟨F, s, res, s', I, e, k⟩ => ?_
  unfold mSl at e
  obtain ⟨p, e1, e⟩ := Option.bind_eq_some_iff.mp e
  obtain ⟨q, e2, e⟩ := Option.bind_eq_some_iff.mp e
  obtain ⟨r, e3, e⟩ := Option.bind_eq_some_iff.mp e
  obtain ⟨x, e4, e⟩ := Option.bind_eq_some_iff.mp e
  obtain ⟨z, e5, e⟩ := Option.map_eq_some_iff.mp e
  cases e
  refine tM_soft I e1 fun F1 v H1 I1 K1 w1 => ⟨F1, _, q.1, q.2, I1, e2, fun F2 H2 I2 K2 => ⟨F2, _, r.1, r.2, I2, e3, fun F3 H3 I3 K3 => ?_⟩⟩
  have pkv := ((w1.keep K2.grow).keep K3.grow).pk I3 e4
  have K := (K1.trans K2 I2).trans K3 I3
  unfold cutD at e5
  split at e5
  · cases e5
    obtain ⟨a, xs, rfl, h1, r1⟩ := pkv.lst I3.sub
    exact .inl ⟨a, xs, rfl, SqL.of h1, fun p hp => (fin_of I3 K (by intro _ z; cases z) k).newO I3.sub (.lst (cut_rep r1 _ _)) p hp⟩
  · cases e5
    obtain ⟨a, xs, rfl, h1, r1⟩ := pkv.tup I3.sub
    refine .inr (.inl ⟨a, xs, rfl, by rw [o.K]; exact h1, fun ⟨z1, z2⟩ => ?_, fun _ p hp => (fin_of I3 K (by intro _ z; cases z) k).newT I3.sub (cut_rep r1 _ _) p hp⟩)
    rcases pkv with h | ⟨_, _, _, _, h⟩
    · refine (fin_of I3 K (by intro _ z; cases z) k).q I3.sub ?_
      have : ∀ {ds : List D}, xs.length = ds.length → cutL ds q.1 r.1 = ds := fun {ds} hl => by
        unfold cutL
        rw [← hl, z1, z2, hl]
        simp
      rw [this r1.length]
      exact h
    · cases h
  · split at e5
    · cases e5
      obtain rfl := pkv.str
      exact .inr (.inr ⟨_, rfl, by assumption, (fin_of I3 K (by intro _ z; cases z) k).q I3.sub (.str _)⟩)
    · cases e5
  · cases e5
/-! ### built-in functions of one value -/
theorem d_b1 {x : Str} {id : String} {r : List V → Hp → VK → Prop} {f : D → Option Vr} {a : Expr} {ma : M g.R.S Vr} {p pos : Pos} (hc : CallR X (.builtin id) r) (ok : Op1 g f (fun x H Q => r [x] H Q)) (hv : bootBuiltins x = some (.builtin id)) (hg : Gl X x) (hm : X.mg x = none) (ha : DE g X a ma) (hn : x ≠ "__name__" := by decide) (hdb : (x == ("__debug__" : Str)) = false := by decide)
    (he : starEach [a] X.env = (false, eval a X.env) :: starEach [] X.env := by rfl) (hpl : (backTo pos (starEach [] X.env)).any (·.1) = false := by rfl) : DE g X (.Call (.Name x p) [a] [] pos) (mOp1 f ma) :=
  PE.imp (pe_callB hc hg hm hv (pa_cons ha pa_nil he) hn hdb he hpl) fun _ _ _ h => tOp1_of ok h
theorem d_t1 {x : Str} {T : String} {r : List V → Hp → VK → Prop} {f : D → Option Vr} {a : Expr} {ma : M g.R.S Vr} {p pos : Pos} (hc : CallR X (.type T) r) (ok : Op1 g f (fun x H Q => r [x] H Q)) (hv : bootBuiltins x = some (.type T)) (hg : Gl X x) (hm : X.mg x = none) (ha : DE g X a ma) (hn : x ≠ "__name__" := by decide) (hdb : (x == ("__debug__" : Str)) = false := by decide)
    (he : starEach [a] X.env = (false, eval a X.env) :: starEach [] X.env := by rfl) (hpl : (backTo pos (starEach [] X.env)).any (·.1) = false := by rfl) : DE g X (.Call (.Name x p) [a] [] pos) (mOp1 f ma) :=
  PE.imp (pe_callTy hc hg hm hv (pa_cons ha pa_nil he) hn hdb he hpl) fun _ _ _ h => tOp1_of ok h
theorem d_b2 {x : Str} {id : String} {r : List V → Hp → VK → Prop} {f : D → D → Option Vr} {a b : Expr} {ma mb : M g.R.S Vr} {p pos : Pos} (hc : CallR X (.builtin id) r) (ok : Op2 g f (fun x y H Q => r [x, y] H Q)) (hv : bootBuiltins x = some (.builtin id)) (hg : Gl X x) (hm : X.mg x = none) (ha : DE g X a ma) (hb : DE g X b mb) (hn : x ≠ "__name__" := by decide) (hdb : (x == ("__debug__" : Str)) = false := by decide)
    (he : starEach [a, b] X.env = (false, eval a X.env) :: starEach [b] X.env := by rfl) (he2 : starEach [b] X.env = (false, eval b X.env) :: starEach [] X.env := by rfl) (hpl : (backTo pos (starEach [b] X.env)).any (·.1) = false := by rfl) : DE g X (.Call (.Name x p) [a, b] [] pos) (mOp2 f ma mb) :=
  PE.imp (pe_callB hc hg hm hv (pa_cons ha (pa_cons hb pa_nil he2) he) hn hdb he hpl) fun _ _ _ h => tOp2_of ok h
def lenD : D → Option Vr
  | .lst ds => some (.sh (.int ds.length))
  | .tup ds => some (.sh (.int ds.length))
  | .dct false es => some (.sh (.int es.length))
  | .str x => if x.length ≤ sizeLine then some (.sh (.int x.length)) else none
  | .scr ns => some (.sh (.int ns.length))
  | _ => none
theorem call_lenRd : CallR X (.builtin "len") (fun xs H Q => ∃ a kvs, xs = [V.ref a] ∧ Rd H a (.dK kvs) ∧ Q (.int kvs.length) H) := by
  intro pins s σ H xs us Q I r h
  obtain ⟨a, kvs, rfl, ha, q⟩ := h
  obtain ⟨u, rfl, ru⟩ := vals1 r
  cases ru
  exact d_len I ha fun t s' I' => ⟨.int kvs.length, H, I', ⟨t, rfl⟩, q⟩
theorem p_len : Op1 g lenD (fun x H Q => (∃ y n, [x] = [y] ∧ LenV g.K y H n ∧ Q (.int n) H) ∨ ∃ a kvs, [x] = [V.ref a] ∧ Rd H a (.dK kvs) ∧ Q (.int kvs.length) H) := by
  refine ⟨fun x z e i => ?_, fun F H x dx z Q s p e n => ?_⟩
  · unfold lenD at e
    split at e <;> first | cases e; exact fun z => nomatch z | (split at e <;> first | cases e; exact fun z => nomatch z | cases e) | cases e
  · unfold lenD at e
    split at e
    · cases e
      obtain ⟨a, xs, rfl, e1, r1⟩ := p.lst s
      exact .inl ⟨_, xs.length, rfl, .inl ⟨xs, SqL.of e1, rfl⟩, by rw [r1.length]; exact n.q s (.int _)⟩
    · cases e
      obtain ⟨a, xs, rfl, e1, r1⟩ := p.tup s
      exact .inl ⟨_, xs.length, rfl, .inr ⟨xs, e1, rfl⟩, by rw [r1.length]; exact n.q s (.int _)⟩
    · cases e
      obtain ⟨a, kvs, rfl, e1, r1⟩ := p.dK s
      exact .inr ⟨a, kvs, rfl, e1, by rw [r1.length]; exact n.q s (.int _)⟩
    · split at e
      · cases e
        obtain rfl := p.str
        exact .inl ⟨_, _, rfl, ⟨by assumption, rfl⟩, n.q s (.int _)⟩
      · cases e
    · cases e
      obtain ⟨a, rfl, e1⟩ := p.scr s
      exact .inl ⟨_, _, rfl, .inl ⟨_, e1, rfl⟩, by rw [List.length_map]; exact n.q s (.int _)⟩
    · cases e
theorem d_len' {a : Expr} {ma : M g.R.S Vr} {p pos : Pos} {k : Nat} (o : XO g k X) (hg : Gl X "len") (hm : X.mg "len" = none) (ha : DE g X a ma) (he : starEach [a] X.env = (false, eval a X.env) :: starEach [] X.env := by rfl) : DE g X (.Call (.Name "len" p) [a] [] pos) (mOp1 lenD ma) :=
  d_b1 (CallR.or call_len call_lenRd) (by rw [o.K]; exact p_len) PySem.boot_len hg hm ha (by decide) (by decide) he rfl
def absD : D → Option Vr
  | .int i => some (.sh (.int (if i < 0 then -i else i)))
  | _ => none
theorem d_abs {a : Expr} {ma : M g.R.S Vr} {p pos : Pos} (hg : Gl X "abs") (hm : X.mg "abs" = none) (ha : DE g X a ma) (he : starEach [a] X.env = (false, eval a X.env) :: starEach [] X.env := by rfl) : DE g X (.Call (.Name "abs" p) [a] [] pos) (mOp1 absD ma) := by
  refine d_b1 call_abs ⟨fun x z e i => ?_, fun F H x dx z Q s p e n => ?_⟩ (by decide +kernel) hg hm ha (by decide) (by decide) he rfl
  · cases x <;> cases e
    exact fun z => nomatch z
  · cases dx <;> cases e
    obtain rfl := p.int
    exact ⟨_, rfl, n.q s (.int _)⟩
def intD : D → Option Vr
  | .int i => some (.sh (.int i))
  | .bl k => some (.sh (.int (if k then 1 else 0)))
  | _ => none
theorem d_int1 {a : Expr} {ma : M g.R.S Vr} {p pos : Pos} (hg : Gl X "int") (hm : X.mg "int" = none) (ha : DE g X a ma) (he : starEach [a] X.env = (false, eval a X.env) :: starEach [] X.env := by rfl) : DE g X (.Call (.Name "int" p) [a] [] pos) (mOp1 intD ma) := by
  refine d_t1 call_int1 ⟨fun x z e i => ?_, fun F H x dx z Q s p e n => ?_⟩ (by decide +kernel) hg hm ha (by decide) (by decide) he rfl
  · cases x <;> cases e <;> exact fun z => nomatch z
  · cases dx <;> cases e
    · obtain rfl := p.bl
      exact .inr ⟨_, rfl, n.q s (.int _)⟩
    · obtain rfl := p.int
      exact .inl ⟨_, rfl, n.q s (.int _)⟩
abbrev min2 : D → D → Option Vr := o2I fun i j => some (.int (if j < i then j else i))
theorem d_min2 {a b : Expr} {ma mb : M g.R.S Vr} {p pos : Pos} {k : Nat} (o : XO g k X) (hg : Gl X "min") (hm : X.mg "min" = none) (ha : DE g X a ma) (hb : DE g X b mb) (he : starEach [a, b] X.env = (false, eval a X.env) :: starEach [b] X.env := by rfl) (he2 : starEach [b] X.env = (false, eval b X.env) :: starEach [] X.env := by rfl) (hpl : (backTo pos (starEach [b] X.env)).any (·.1) = false := by rfl) : DE g X (.Call (.Name "min" p) [a, b] [] pos) (mOp2 min2 ma mb) :=
  d_b2 (call_min2 o.calm) (op2_int fun i j d H Q F e n => by cases e; exact ⟨i, j, rfl, n _ (.int _)⟩) (by decide +kernel) hg hm ha hb (by decide) (by decide) he he2 hpl
end
end RW
namespace RW
open PySem L2
section
variable {g : G} {X : Cx}
/-! ### list(x), tuple(x), sorted(x), all(x), any(x), dict(x) -/
def listD : D → Option Vr
  | .lst ds => some (.tmp (.lst ds))
  | .tup ds => some (.tmp (.lst ds))
  | .dct false es => some (.tmp (.lst (es.map (·.1))))
  | _ => none
theorem RepK.keys {F : Hp} : ∀ {kvs : List (Key × V)} {es : List (D × D)}, RepK g F kvs es → RepAll g F (kvs.map fun kv => kV kv.1) (es.map (·.1))
  | _, _, .nil => .nil
  | _, _, .cons _ t => .cons (rep_key _) (RepK.keys t)
theorem d_list {a : Expr} {ma : M g.R.S Vr} {p pos : Pos} {k : Nat} (o : XO g k X) (hg : Gl X "list") (hm : X.mg "list" = none) (ha : DE g X a ma) (he : starEach [a] X.env = (false, eval a X.env) :: starEach [] X.env := by rfl) : DE g X (.Call (.Name "list" p) [a] [] pos) (mOp1 listD ma) := by
  refine d_t1 (CallR.or call_list_of (call_listD o.calm)) ⟨fun x z e i => ?_, fun F H x dx z Q s p e n => ?_⟩ (by decide +kernel) hg hm ha (by decide) (by decide) he rfl
  · unfold listD at e
    split at e <;> cases e <;> exact fun z => nomatch z
  · unfold listD at e
    split at e
    · cases e
      obtain ⟨a, xs, rfl, e1, r1⟩ := p.lst s
      exact .inl ⟨a, xs, rfl, .inl (SqL.of e1), fun l hl => n.newO s (.lst r1) l hl⟩
    · cases e
      obtain ⟨a, xs, rfl, e1, r1⟩ := p.tup s
      exact .inl ⟨a, xs, rfl, .inr (by rw [o.K]; exact e1), fun l hl => n.newO s (.lst r1) l hl⟩
    · cases e
      obtain ⟨a, kvs, rfl, e1, r1⟩ := p.dK s
      exact .inr ⟨a, kvs, rfl, e1, fun l hl => n.newO s (.lst r1.keys) l hl⟩
    · cases e
def keysStr : List (D × D) → Option (List Str)
  | [] => some []
  | (.str x, _) :: r => (keysStr r).map fun xs => x :: xs
  | _ => none
theorem keysStr_eq {F : Hp} : ∀ {kvs : List (Key × V)} {es : List (D × D)} {xs : List Str}, RepK g F kvs es → keysStr es = some xs → kvs.map (·.1) = xs.map Sum.inr
  | _, _, _, .nil, e => by cases e; rfl
  | _, _, _, .cons (k := k) h t, e => by
    cases k with
    | inl i => cases e
    | inr x =>
      obtain ⟨ys, e1, e2⟩ := Option.map_eq_some_iff.mp (show (keysStr _).map (fun xs => x :: xs) = some _ from e)
      subst e2
      rw [List.map_cons, keysStr_eq t e1]; rfl
def sortD : D → Option Vr
  | .lst ds => (strsOf ds).bind fun xs => if xs.length < 64 then some (.tmp (.lst ((sortS xs).map .str))) else none
  | .dct false es => (keysStr es).bind fun xs => if xs.length < 64 then some (.tmp (.lst ((sortS xs).map .str))) else none
  | _ => none
def boolsOf : List D → Option (List Bool)
  | [] => some []
  | .bl b :: ds => (boolsOf ds).map fun bs => b :: bs
  | _ => none
theorem boolsOf_rep {F : Hp} : ∀ {xs : List V} {ds : List D} {bs : List Bool}, RepAll g F xs ds → boolsOf ds = some bs → xs = bs.map .bl
  | _, _, _, .nil, e => by cases e; rfl
  | _, _, _, .cons (d := d) a b, e => by
    cases d with
    | bl c =>
      obtain ⟨ys, e1, e2⟩ := Option.map_eq_some_iff.mp (show (boolsOf _).map (fun bs => c :: bs) = some _ from e)
      subst e2
      rw [Pk.bl (H := F) (.inl a), boolsOf_rep b e1]; rfl
    | _ => cases e
def allD : D → Option Vr
  | .lst ds => (boolsOf ds).map fun bs => .sh (.bl (bs.all id))
  | _ => none
def anyD : D → Option Vr
  | .lst ds => (boolsOf ds).map fun bs => .sh (.bl (bs.any id))
  | _ => none
theorem d_all {a : Expr} {ma : M g.R.S Vr} {p pos : Pos} {k : Nat} (o : XO g k X) (hg : Gl X "all") (hm : X.mg "all" = none) (ha : DE g X a ma) (he : starEach [a] X.env = (false, eval a X.env) :: starEach [] X.env := by rfl) : DE g X (.Call (.Name "all" p) [a] [] pos) (mOp1 allD ma) := by
  refine d_b1 (cr_all o.calm) ⟨fun x z e i => ?_, fun F H x dx z Q s p e n => ?_⟩ (by decide +kernel) hg hm ha (by decide) (by decide) he rfl
  · unfold allD at e
    split at e
    · obtain ⟨b, _, rfl⟩ := Option.map_eq_some_iff.mp e; exact fun z => nomatch z
    · cases e
  · unfold allD at e
    split at e
    · obtain ⟨bs, h, rfl⟩ := Option.map_eq_some_iff.mp e
      obtain ⟨a, xs, rfl, e1, r1⟩ := p.lst s
      rw [boolsOf_rep r1 h] at e1
      exact ⟨a, bs, rfl, SqL.of e1, n.q s (.bl _)⟩
    · cases e
theorem d_any {a : Expr} {ma : M g.R.S Vr} {p pos : Pos} {k : Nat} (o : XO g k X) (hg : Gl X "any") (hm : X.mg "any" = none) (ha : DE g X a ma) (he : starEach [a] X.env = (false, eval a X.env) :: starEach [] X.env := by rfl) : DE g X (.Call (.Name "any" p) [a] [] pos) (mOp1 anyD ma) := by
  refine d_b1 (cr_any o.calm) ⟨fun x z e i => ?_, fun F H x dx z Q s p e n => ?_⟩ (by decide +kernel) hg hm ha (by decide) (by decide) he rfl
  · unfold anyD at e
    split at e
    · obtain ⟨b, _, rfl⟩ := Option.map_eq_some_iff.mp e; exact fun z => nomatch z
    · cases e
  · unfold anyD at e
    split at e
    · obtain ⟨bs, h, rfl⟩ := Option.map_eq_some_iff.mp e
      obtain ⟨a, xs, rfl, e1, r1⟩ := p.lst s
      rw [boolsOf_rep r1 h] at e1
      exact ⟨a, bs, rfl, SqL.of e1, n.q s (.bl _)⟩
    · cases e
/-- the pairs of dict(..) -/
def pairsIn : List D → Option (List (Key × D))
  | [] => some []
  | .tup [k, v] :: r => (kOf k).bind fun key => (pairsIn r).map fun ps => (key, v) :: ps
  | _ => none
def mergeE (es : List (D × D)) (ps : List (Key × D)) : List (D × D) := ps.foldl (fun acc p => putE acc (keyD p.1) p.2) es
def dictD : D → Option Vr
  | .dct false es => some (.tmp (.dct false es))
  | .lst ds => (pairsIn ds).map fun ps => .tmp (.dct false (mergeE [] ps))
  | _ => none
theorem pairsIn_rep {F H : Hp} (s : Sub F H) : ∀ {xs : List V} {ds : List D} {ps : List (Key × D)}, RepAll g F xs ds → pairsIn ds = some ps → ∃ (as : List Addr) (kvs : List (Key × V)), xs = as.map V.ref ∧ Paired (fun p kv => SqT g.K H p [kV kv.1, kv.2]) as kvs ∧ ∀ {acc : List (Key × V)} {es : List (D × D)}, RepK g F acc es → RepK g F (mergeK acc kvs) (mergeE es ps)
  | _, _, _, .nil, e => by cases e; exact ⟨[], [], rfl, .nil, fun h => h⟩
  | _, _, _, .cons (d := d) (ds := ds) a b, e => by
    unfold pairsIn at e
    split at e
    · rename_i h; cases h
    · rename_i k v r h
      cases h
      obtain ⟨key, h1, e⟩ := Option.bind_eq_some_iff.mp e
      obtain ⟨qs, h2, e⟩ := Option.map_eq_some_iff.mp e
      subst e
      obtain ⟨as, kvs, rfl, h3, h4⟩ := pairsIn_rep s b h2
      obtain ⟨p, xs, rfl, h5, h6⟩ := a.tupIn
      cases h6 with
      | cons c1 c2 => cases c2 with
        | cons c3 c4 =>
          cases c4
          have hk := kOf_some h1
          subst hk
          rename_i vk vs' 
          have : vk = kV key := by
            cases key with
            | inl i => exact Pk.int (H := F) (.inl c1)
            | inr x => exact Pk.str (H := F) (.inl c1)
          subst this
          exact ⟨p :: as, (key, vs') :: kvs, rfl, .cons (h5.sq s) h3, fun h => h4 (h.put key c3)⟩
    · cases e
theorem d_dict {a : Expr} {ma : M g.R.S Vr} {p pos : Pos} {k : Nat} (o : XO g k X) (hg : Gl X "dict") (hm : X.mg "dict" = none) (ha : DE g X a ma) (he : starEach [a] X.env = (false, eval a X.env) :: starEach [] X.env := by rfl) : DE g X (.Call (.Name "dict" p) [a] [] pos) (mOp1 dictD ma) := by
  refine d_t1 (CallR.or call_dictD (call_dictP o.calm)) ⟨fun x z e i => ?_, fun F H x dx z Q s p e n => ?_⟩ (by decide +kernel) hg hm ha (by decide) (by decide) he rfl
  · unfold dictD at e
    split at e
    · cases e; exact fun z => nomatch z
    · obtain ⟨b, _, rfl⟩ := Option.map_eq_some_iff.mp e; exact fun z => nomatch z
    · cases e
  · unfold dictD at e
    split at e
    · cases e
      obtain ⟨a, kvs, rfl, e1, r1⟩ := p.dK s
      exact .inl ⟨a, kvs, rfl, e1, fun p hp => n.newO s (.dK r1) p hp⟩
    · obtain ⟨ps, h, rfl⟩ := Option.map_eq_some_iff.mp e
      obtain ⟨a, xs, rfl, e1, r1⟩ := p.lst s
      obtain ⟨as, kvs, rfl, h1, h2⟩ := pairsIn_rep s r1 h
      exact .inr ⟨a, as, kvs, rfl, SqL.of e1, by rw [o.K]; exact h1, fun p hp => n.newO s (.dK (h2 .nil)) p hp⟩
    · cases e
/-! ### sep.join(xs) -/
def joinD : D → D → Option Vr
  | .str a, .lst ds => (strsOf ds).bind fun ys => if (ys.map (·.length)).sum + ys.length * a.length ≤ 16777216 then some (.sh (.str (Txt.join a ys))) else none
  | .str a, .tup ds => (strsOf ds).bind fun ys => if (ys.map (·.length)).sum + ys.length * a.length ≤ 16777216 then some (.sh (.str (Txt.join a ys))) else none
  | _, _ => none
end
end RW
namespace RW
open PySem L2
section
variable {g : G} {X : Cx}
def mJoin {R : Type} (ma mb : M R Vr) : M R Vr := fun s => (ma s).bind fun p => match p.1 with
  | .sh (.str a) => (mb p.2).bind fun q => (pk (soft q.1) q.2).bind fun y => (joinD (.str a) y).map fun z => (z, q.2)
  | _ => none
theorem d_join {o e : Expr} {ma mb : M g.R.S Vr} {apos pos : Pos} {k : Nat} (xo : XO g k X) (ho : DE g X o ma) (he : DE g X e mb) (hs : starEach [e] X.env = [(false, eval e X.env)] := by rfl) (hbase : attributeBase o "join" X.env (eval o X.env) = eval o X.env := by rfl) (hline : (apos.endLine == pos.line) = true := by rfl) :
    DE g X (.Call (.Attribute o "join" apos) [e] [] pos) (mJoin ma mb) := by
  refine PE.imp (pe_join ho he hs hbase hline) fun σ H Q ⟨F, s, res, s', I, e, k⟩ => ?_
  unfold mJoin at e
  obtain ⟨⟨r, s1⟩, e1, e⟩ := Option.bind_eq_some_iff.mp e
  cases r with
  | sh d => cases d with
    | str a =>
      obtain ⟨q, e2, e⟩ := Option.bind_eq_some_iff.mp e
      obtain ⟨y, e3, e⟩ := Option.bind_eq_some_iff.mp e
      obtain ⟨z, e4, e⟩ := Option.map_eq_some_iff.mp e
      cases e
      refine ⟨F, s, _, _, I, e1, fun F1 v H1 I1 K1 r1 => ?_⟩
      obtain rfl := Pk.str (H := H1) (.inl r1)
      refine ⟨⟨a, rfl⟩, tM_soft I1 e2 fun F2 u H2 I2 K2 w2 => ?_⟩
      have pkv := w2.pk I2 e3
      unfold joinD at e4
      split at e4
      · rename_i h; cases h
        obtain ⟨ys, h1, e4⟩ := Option.bind_eq_some_iff.mp e4
        split at e4
        · cases e4
          obtain ⟨p, xs, rfl, h2, r2⟩ := pkv.lst I2.sub
          rw [strsOf_eq h1] at r2
          rw [rep_strs r2] at h2
          exact ⟨a, p, ys, rfl, rfl, .inl (SqL.of h2), by assumption, k F2 _ H2 I2 (K1.trans K2 I2) (.str _)⟩
        · cases e4
      · rename_i h; cases h
        obtain ⟨ys, h1, e4⟩ := Option.bind_eq_some_iff.mp e4
        split at e4
        · cases e4
          obtain ⟨p, xs, rfl, h2, r2⟩ := pkv.tup I2.sub
          rw [strsOf_eq h1] at r2
          rw [rep_strs r2] at h2
          exact ⟨a, p, ys, rfl, rfl, .inr (by rw [xo.K]; exact h2), by assumption, k F2 _ H2 I2 (K1.trans K2 I2) (.str _)⟩
        · cases e4
      · cases e4
    | _ => cases e
  | _ => cases e
/-! ### a slot's own thing is changed -/
theorem Sim.mut {F H : Hp} {s : S g.R.S} {σ : St} {i : Nat} {c : Cell} {p : Addr} {o o' : HO} {d' : D} (I : Sim g F s σ H) (ec : s.e[i]? = some (some c)) (ho : c.own = true) (hv : σ[i]? = some (some (.ref p))) (hp : H p = some o) (r : RepO g F o' d') :
    Sim g F { s with e := s.e.set i (some ⟨d', true⟩) } σ (upd H p o') ∧ Keep g F s σ H F { s with e := s.e.set i (some ⟨d', true⟩) } σ (upd H p o') := by
  have own : Own σ s.e p := ⟨i, c, ec, ho, hv⟩
  obtain ⟨nF, nft, _⟩ := I.own_at own
  have hi : i < s.e.length := (List.getElem?_eq_some_iff.mp ec).1
  have at_i : (s.e.set i (some ⟨d', true⟩))[i]? = some (some ⟨d', true⟩) := List.getElem?_set_self hi
  have at_j : ∀ j, j ≠ i → (s.e.set i (some ⟨d', true⟩))[j]? = s.e[j]? := fun j h => List.getElem?_set_ne (Ne.symm h)
  have back : ∀ {j : Nat} {cj : Cell}, (s.e.set i (some ⟨d', true⟩))[j]? = some (some cj) → cj.own = true → ∃ c', s.e[j]? = some (some c') ∧ c'.own = true := fun {j cj} h1 h2 => by
    by_cases hj : j = i
    · subst hj; exact ⟨c, ec, ho⟩
    · rw [at_j j hj] at h1; exact ⟨cj, h1, h2⟩
  refine ⟨⟨fun a u e => ?_, g.R.stay I.at_ fun a ha => upd_ne (fun (z : a = p) => nft (by rw [← z]; exact ha)), I.foot, by simpa using I.len, fun j cj ej => ?_, fun j k cj ck a hne ej ek oj ok hj => ?_⟩, ⟨fun a u e n _ => ?_, Le.refl _, fun _ _ _ _ h _ => h, fun a z => ?_, fun a u e => ?_⟩⟩
  · rw [upd_ne (fun z => by rw [z, nF] at e; cases e)]; exact I.sub a u e
  · by_cases hj : j = i
    · subst hj
      rw [show ({ s with e := s.e.set j (some ⟨d', true⟩) } : S g.R.S).e = s.e.set j (some ⟨d', true⟩) from rfl, at_i] at ej
      cases ej
      exact ⟨_, hv, .inr ⟨rfl, p, o', rfl, nF, nft, upd_same, r⟩⟩
    · rw [show ({ s with e := s.e.set i (some ⟨d', true⟩) } : S g.R.S).e = s.e.set i (some ⟨d', true⟩) from rfl, at_j j hj] at ej
      obtain ⟨v, h1, h2⟩ := I.cell j cj ej
      refine ⟨v, h1, ?_⟩
      rcases h2 with h2 | ⟨h2, q, x, r1, r2, r3, r4, r5⟩
      · exact .inl h2
      · refine .inr ⟨h2, q, x, r1, r2, r3, ?_, r5⟩
        rw [upd_ne (fun z => I.apart j i cj c p hj ej ec h2 ho (by rw [h1, r1, z]) hv)]; exact r4
  · obtain ⟨c1, e1, o1⟩ := back ej oj
    obtain ⟨c2, e2, o2⟩ := back ek ok
    exact I.apart j k c1 c2 a hne e1 e2 o1 o2 hj
  · rw [upd_ne (fun z => by rw [z] at n; exact n own)]; exact e
  · obtain ⟨j, cj, h1, h2, h3⟩ := z
    obtain ⟨c1, e1, o1⟩ := back h1 h2
    exact .inl ⟨j, c1, e1, o1, h3⟩
  · by_cases z : a = p
    · subst z; exact ⟨_, upd_same⟩
    · rw [upd_ne z]; exact ⟨u, e⟩
/-- a method of a slot's own list or dict -/
def mMut {R : Type} (i : Nat) (ty : D → Bool) (f : D → List D → Option (D × D)) (ma : M R (List Vr)) : M R Vr := fun s => match s.e[i]? with
  | some (some c) => if ty c.d then (ma s).bind fun p => (escAll p.1 p.2).bind fun q => (match q.2.e[i]? with
    | some (some c) => if c.own then (f c.d q.1).map fun z => (.sh z.1, { q.2 with e := q.2.e.set i (some ⟨z.2, true⟩) }) else none
    | _ => none) else none
  | _ => none
def isLst : D → Bool
  | .lst _ => true
  | _ => false
def isDK : D → Bool
  | .dct false _ => true
  | _ => false
structure MutOk (g : G) (n : Nat) (f : D → List D → Option (D × D)) (r : V → List V → Hp → VK → Prop) : Prop where
  ok : ∀ F H p o d vs ds v d' Q, H p = some o → RepO g F o d → RepAll g F vs ds → vs.length = n → f d ds = some (v, d') → (∀ o' x, RepO g F o' d' → Rep g F x v → Q x (upd H p o')) → r (.ref p) vs H Q
theorem tMut_of {i n : Nat} {T : String} {ty : D → Bool} {f : D → List D → Option (D × D)} {r : V → List V → Hp → VK → Prop} {ma : M g.R.S (List Vr)} (ok : MutOk g n f r) (hty : ∀ F H v d, Sub F H → Pk g F H v d → ty d = true → tyV X.K T v H) {σ : St} {H : Hp} {Q : VK} (h : tM g (mMut i ty f ma) σ H Q) : tBM X.K T r (tVar i) (tMV g n ma) σ H Q := by
  obtain ⟨F, s, res, s', I, e, k⟩ := h
  unfold mMut at e
  split at e
  · rename_i c ec
    split at e
    · rename_i ht
      obtain ⟨p, e1, e⟩ := Option.bind_eq_some_iff.mp e
      obtain ⟨q, e2, e⟩ := Option.bind_eq_some_iff.mp e
      obtain ⟨v, ev, cv⟩ := I.cell i c ec
      have pk0 : Pk g F H v c.d := by
        rcases cv with ⟨_, b⟩ | ⟨_, p, o, b1, _, _, b4, b5⟩
        · exact .inl b
        · exact .inr ⟨p, o, b1, b4, b5⟩
      refine ⟨v, ev, hty F H v c.d I.sub pk0 ht, F, s, p.1, p.2, I, e1, fun F1 vs H1 I1 K1 w1 hl => ?_⟩
      obtain ⟨F2, I2, K2, r2⟩ := escAll_ok I1 w1 e2
      split at e
      · rename_i c2 ec2
        split at e
        · rename_i ho
          obtain ⟨z, e3, e⟩ := Option.map_eq_some_iff.mp e
          cases e
          obtain ⟨v2, ev2, cv2⟩ := I2.cell i c2 ec2
          rw [ev] at ev2; cases ev2
          rcases cv2 with ⟨z0, _⟩ | ⟨_, a, o, rfl, b2, b3, b4, b5⟩
          · rw [ho] at z0; cases z0
          · refine ok.ok F2 H1 a o c2.d vs q.1 z.1 z.2 _ b4 b5 r2 hl e3 fun o' x r3 r4 => ?_
            obtain ⟨I3, K3⟩ := I2.mut ec2 ho ev b4 r3
            exact k F2 x _ I3 ((K1.trans K2 I2).trans K3 I3) r4
        · cases e
      · cases e
    · cases e
  · cases e
theorem ty_lst {F H : Hp} {v : V} {d : D} (s : Sub F H) (p : Pk g F H v d) (h : isLst d = true) : tyV X.K "list" v H := by
  cases d <;> cases h
  obtain ⟨a, xs, rfl, e1, _⟩ := p.lst s
  exact .inl ⟨rfl, xs, SqL.of e1⟩
theorem d_mL {i n : Nat} {f : D → List D → Option (D × D)} {r : V → List V → Hp → VK → Prop} {e : Expr} {ma : M g.R.S (List Vr)} (ok : MutOk g n f r) (h : PE X e (tBM X.K "list" r (tVar i) (tMV g n ma))) : DE g X e (mMut i isLst f ma) :=
  PE.imp h fun _ _ _ q => tMut_of ok (fun _ _ _ _ s p t => ty_lst s p t) q
theorem d_mL0 {i : Nat} {f : D → List D → Option (D × D)} {r : V → List V → Hp → VK → Prop} {e : Expr} (ok : MutOk g 0 f r) (h : PE X e (tBM0 X.K "list" r (tVar i))) : DE g X e (mMut i isLst f (mArgs [])) :=
  PE.imp h fun σ H Q q => by
    obtain ⟨v, e1, t, F, s, rs, s', I, e2, k⟩ := tMut_of (X := X) (T := "list") ok (fun _ _ _ _ s p t => ty_lst s p t) q
    cases e2
    exact ⟨v, e1, t, k F [] H I Keep.refl trivial rfl⟩
def appL : D → List D → Option (D × D)
  | .lst xs, [d] => if xs.length < sizeLine then some (.non, .lst (xs ++ [d])) else none
  | _, _ => none
theorem m_app : MutOk g 1 appL rAppend := ⟨fun F H p o d vs ds v d' Q hp r rs hl e n => by
  unfold appL at e
  split at e
  · split at e
    · cases e
      cases r with
      | lst r1 => cases rs with
        | cons a b => cases b; exact ⟨p, _, _, rfl, rfl, hp, by rw [r1.length]; assumption, n _ _ (.lst (r1.append a)) .non⟩
    · cases e
  · cases e⟩
def popAtL : D → List D → Option (D × D)
  | .lst xs, [.int i] => if xs.length ≤ sizeLine then (seqIndex? i xs.length).bind fun k => (xs[k]?).map fun d => (d, .lst (xs.eraseIdx k)) else none
  | _, _ => none
theorem RepAll.erase {F : Hp} : ∀ {xs : List V} {ds : List D} (k : Nat), RepAll g F xs ds → RepAll g F (xs.eraseIdx k) (ds.eraseIdx k)
  | _, _, _, .nil => .nil
  | _, _, 0, .cons a b => b
  | _, _, k + 1, .cons a b => .cons a (RepAll.erase k b)
theorem seqIx_bd {i : Int} {n k : Nat} (h : seqIndex? i n = some k) : -(n : Int) ≤ i ∧ i < n := by
  unfold seqIndex? at h
  simp only [Bool.and_eq_true, decide_eq_true_eq] at h
  split at h
  · split at h
    · omega
    · cases h
  · split at h
    · omega
    · cases h
theorem m_popAt : MutOk g 1 popAtL rPopAt := ⟨fun F H p o d vs ds v d' Q hp r rs hl e n => by
  unfold popAtL at e
  split at e
  · split at e
    · rename_i hb
      obtain ⟨k, e1, e⟩ := Option.bind_eq_some_iff.mp e
      obtain ⟨y, e2, e⟩ := Option.map_eq_some_iff.mp e
      cases e
      have hi := seqIx_bd e1
      unfold sizeLine at hb
      cases r with
      | lst r1 => cases rs with
        | cons a b =>
          cases b
          obtain rfl := Pk.int (H := F) (.inl a)
          obtain ⟨x, h1, h2⟩ := r1.get e2
          exact ⟨p, _, _, k, x, rfl, rfl, hp, by omega, by omega, by rw [r1.length]; exact e1, h1, n _ _ (.lst (r1.erase k)) h2⟩
    · cases e
  · cases e⟩
def popL : D → List D → Option (D × D)
  | .lst xs, [] => (xs[xs.length - 1]?).map fun d => (d, .lst xs.dropLast)
  | _, _ => none
theorem RepAll.dropLast {F : Hp} {xs : List V} {ds : List D} (h : RepAll g F xs ds) : RepAll g F xs.dropLast ds.dropLast := by
  rw [List.dropLast_eq_take, List.dropLast_eq_take, h.length]
  exact h.take _
theorem m_pop : MutOk g 0 popL rPop := ⟨fun F H p o d vs ds v d' Q hp r rs hl e n => by
  unfold popL at e
  split at e
  · obtain ⟨y, e2, e⟩ := Option.map_eq_some_iff.mp e
    cases e
    cases r with
    | lst r1 =>
      cases rs
      obtain ⟨x, h1, h2⟩ := r1.get e2
      exact ⟨p, _, x, rfl, rfl, hp, by rw [r1.length]; exact h1, n _ _ (.lst r1.dropLast) h2⟩
  · cases e⟩
/-! ### xs[i] = v, d[k] = v -/
def putD : D → D → D → Option D
  | .lst xs, .int k, v => (ixN xs.length k).map fun j => .lst (xs.set j v)
  | .dct false es, k, v => (kOf k).bind fun key => if es.length < sizeLine then some (.dct false (putE es (keyD key) v)) else none
  | _, _, _ => none
def mPut {R : Type} (i : Nat) (mk mv : M R Vr) : MS R := fun s => (mv s).bind fun p => (esc (soft p.1) p.2).bind fun q => match q.2.e[i]? with
  | some (some _) => (mk q.2).bind fun r => (pk (soft r.1) r.2).bind fun kd => (match r.2.e[i]? with
    | some (some c) => if c.own then (putD c.d kd q.1).map fun d' => (.nx, { r.2 with e := r.2.e.set i (some ⟨d', true⟩) }) else none
    | _ => none)
  | _ => none
theorem PSet.or {t t' : TSet} (h : PSet X t) (h' : PSet X t') : PSet X (fun o i v H Q => t o i v H Q ∨ t' o i v H Q) := fun pins s σ H o i v ov iv u Q I ro ri rv q => q.elim (h pins s σ H o i v ov iv u Q I ro ri rv) (h' pins s σ H o i v ov iv u Q I ro ri rv)
theorem RepAll.set {F : Hp} : ∀ {xs : List V} {ds : List D} (j : Nat) {v : V} {d : D}, RepAll g F xs ds → Rep g F v d → RepAll g F (xs.set j v) (ds.set j d)
  | _, _, _, _, _, .nil, _ => .nil
  | _, _, 0, _, _, .cons a b, h => .cons h b
  | _, _, j + 1, _, _, .cons a b, h => .cons a (RepAll.set j b h)
theorem s_put {i : Nat} {x : Str} {k e : Expr} {mk mv : M g.R.S Vr} {npos tpos pos : Pos} {lv : Nat} (o : XO g lv X) (hv : PE X (.Name x npos) (tVar i)) (hk : DE g X k mk) (he : DE g X e mv)
    (h : PG X (.Subscript (.Name x npos) k tpos) (gSub (tVar i) (tM g mk) fun o i v H Q => rSetL o i v H Q ∨ rSetD o i v H Q))
    (hs : swapsWithSole [.Subscript (.Name x npos) k tpos] e pos.line X.env = pure false := by rfl) (hw : swappedStores [.Subscript (.Name x npos) k tpos] e X.env = pure none := by rfl)
    (h1 : (assignEach [.Subscript (.Name x npos) k tpos] X.env).map (·.2) = [assign (.Subscript (.Name x npos) k tpos) X.env] := by rfl) : DS g X (.Assign [.Subscript (.Name x npos) k tpos] e pos) (mPut i mk mv) := by
  refine PS.imp (ps_asg he h hs hw h1) fun E σ H ⟨F, s, fl, s', I, e, ou⟩ => ?_
  unfold mPut at e
  obtain ⟨p, e1, e⟩ := Option.bind_eq_some_iff.mp e
  obtain ⟨q, e2, e⟩ := Option.bind_eq_some_iff.mp e
  split at e
  · rename_i c0 ec0
    obtain ⟨r, e3, e⟩ := Option.bind_eq_some_iff.mp e
    obtain ⟨kd, e4, e⟩ := Option.bind_eq_some_iff.mp e
    split at e
    · rename_i c ec
      split at e
      · rename_i ho
        obtain ⟨d', e5, e⟩ := Option.map_eq_some_iff.mp e
        cases e
        refine tM_esc I e1 e2 fun F1 v H1 I1 K1 r1 => ?_
        obtain ⟨v0, ev0, _⟩ := I1.cell i c0 ec0
        refine ⟨v0, ev0, tM_soft I1 e3 fun F2 y H2 I2 K2 w2 => ?_⟩
        obtain ⟨v1, ev1, cv⟩ := I2.cell i c ec
        rw [ev0] at ev1; cases ev1
        rcases cv with ⟨z0, _⟩ | ⟨_, a, ob, rfl, b2, b3, b4, b5⟩
        · rw [ho] at z0; cases z0
        · have pky := w2.pk I2 e4
          have r2 := r1.mono K2.grow
          have fin : ∀ {o' : HO}, RepO g F2 o' d' → E.nx σ (upd H2 a o') := fun {o'} r3 => by
            obtain ⟨I3, K3⟩ := I2.mut ec ho ev0 b4 r3
            exact ou F2 σ _ I3 ((K1.trans K2 I2).trans K3 I3)
          unfold putD at e5
          split at e5
          · rename_i hd
            obtain ⟨j, e6, e5⟩ := Option.map_eq_some_iff.mp e5
            subst e5
            rw [hd] at b5
            cases b5 with
            | lst b5 =>
              obtain rfl := pky.int
              exact .inl ⟨a, _, _, j, rfl, rfl, b4, by rw [b5.length]; exact e6, fin (.lst (b5.set j r2))⟩
          · rename_i hd
            obtain ⟨key, e6, e5⟩ := Option.bind_eq_some_iff.mp e5
            split at e5
            · cases e5
              rw [hd] at b5
              cases b5 with
              | dK b5 =>
                have hy : y = kV key := by
                  have := kOf_some e6
                  subst this
                  cases key with
                  | inl i => exact pky.int
                  | inr x => exact pky.str
                subst hy
                exact .inr ⟨a, _, rfl, DPut.k b4 (by rw [b5.length]; assumption), fin (.dK (b5.put key r2))⟩
            · cases e5
          · cases e5
      · cases e
    · cases e
  · cases e
/-! ### attributes -/
def fldD (c : Nat) (f : Str) : D → Option Vr
  | .obj c' fs => if c' = c then (fs.lookup f).map .sh else none
  | _ => none
theorem RepF.look {F : Hp} {f : Str} : ∀ {fs : List (Str × V)} {ds : List (Str × D)} {d : D}, RepF g F fs ds → ds.lookup f = some d → ∃ v, fs.lookup f = some v ∧ Rep g F v d
  | _, _, _, .nil, e => by cases e
  | _, _, _, .cons (f := f') h t, e => by
    rw [List.lookup_cons] at e ⊢
    cases hb : f == f' with
    | true => rw [hb] at e; cases e; exact ⟨_, rfl, h⟩
    | false => rw [hb] at e; exact RepF.look t e
theorem d_fld {e : Expr} {f : Str} {ma : M g.R.S Vr} {pos : Pos} (c : Nat) (cl : Cls X.K (g.cls c)) (na : NoAttr X.K (g.cls c) f) (ha : DE g X e ma) (hb : attributeBase e f X.env (eval e X.env) = eval e X.env := by rfl) : DE g X (.Attribute e f pos) (mOp1 (fldD c f) ma) := by
  refine PE.imp (pe_fld ha hb) fun σ H Q h => ?_
  refine tOp1_of (r := fun x H1 Q => ∃ a C dx fs v, x = .ref a ∧ H1 a = some (.ins C dx fs) ∧ Cls X.K C ∧ NoAttr X.K C f ∧ fs.lookup f = some v ∧ Q v H1) ⟨fun x z e i => ?_, fun F H x dx z Q s p e n => ?_⟩ h
  · unfold fldD at e
    split at e
    · split at e
      · obtain ⟨d, _, rfl⟩ := Option.map_eq_some_iff.mp e; exact fun z => nomatch z
      · cases e
    · cases e
  · unfold fldD at e
    split at e
    · split at e
      · rename_i hc
        subst hc
        obtain ⟨d, h1, rfl⟩ := Option.map_eq_some_iff.mp e
        obtain ⟨a, dx, fs, rfl, h2, h3⟩ := p.obj s
        obtain ⟨v, h4, h5⟩ := h3.look h1
        exact ⟨a, _, dx, fs, v, rfl, h2, cl, na, h4, n.q s h5⟩
      · cases e
    · cases e
def putFD (f : Str) (v : D) : List (Str × D) → List (Str × D)
  | [] => [(f, v)]
  | (n, u) :: r => if n = f then (n, v) :: r else (n, u) :: putFD f v r
theorem RepF.put {F : Hp} {f : Str} {v : V} {d : D} (hv : Rep g F v d) : ∀ {fs : List (Str × V)} {ds : List (Str × D)}, RepF g F fs ds → RepF g F (putF f v fs) (putFD f d ds)
  | _, _, .nil => .cons hv .nil
  | _, _, .cons (f := n) h t => by
    unfold putF putFD
    by_cases e : n = f
    · rw [if_pos e, if_pos e]; exact .cons hv t
    · rw [if_neg e, if_neg e]; exact .cons h (RepF.put hv t)
theorem RepF.length {F : Hp} : ∀ {fs : List (Str × V)} {ds : List (Str × D)}, RepF g F fs ds → fs.length = ds.length
  | _, _, .nil => rfl
  | _, _, .cons _ t => by simp [RepF.length t]
/-- self.f = e, self being a new object -/
def mFld {R : Type} (i c : Nat) (f : Str) (mv : M R Vr) : MS R := fun s => (mv s).bind fun p => (esc (soft p.1) p.2).bind fun q => match q.2.e[i]? with
  | some (some ce) => if ce.own then (match ce.d with
    | .obj c' fs => if c' = c ∧ fs.length < 1000 then some (.nx, { q.2 with e := q.2.e.set i (some ⟨.obj c (putFD f q.1 fs), true⟩) }) else none
    | _ => none) else none
  | _ => none
theorem tFld_of {i c : Nat} {f : Str} {mv : M g.R.S Vr} {E : Ends} {σ : St} {H : Hp} (cl : Cls X.K (g.cls c)) (na : NoAttr X.K (g.cls c) f) (h : tS g (mFld i c f mv) E σ H) : sFld X.K (tVar i) (tM g mv) f E σ H := by
  obtain ⟨F, s, fl, s', I, e, ou⟩ := h
  unfold mFld at e
  obtain ⟨p, e1, e⟩ := Option.bind_eq_some_iff.mp e
  obtain ⟨q, e2, e⟩ := Option.bind_eq_some_iff.mp e
  split at e
  · rename_i ce ec
    split at e
    · rename_i ho
      split at e
      · rename_i c' fs hd
        split at e
        · rename_i hc
          cases e
          obtain ⟨rfl, hlen⟩ := hc
          refine tM_esc I e1 e2 fun F1 v H1 I1 K1 r1 => ?_
          obtain ⟨v0, ev0, cv⟩ := I1.cell i ce ec
          rcases cv with ⟨z0, _⟩ | ⟨_, a, ob, rfl, b2, b3, b4, b5⟩
          · rw [ho] at z0; cases z0
          · rw [hd] at b5
            cases b5 with
            | ins b5 =>
              obtain ⟨I3, K3⟩ := I1.mut ec ho ev0 b4 (RepO.ins (dx := _) (b5.put (f := f) r1))
              exact ⟨_, ev0, a, _, _, _, rfl, b4, cl, na, by rw [b5.length]; exact hlen, ou F1 σ _ I3 (K1.trans K3 I3)⟩
        · cases e
      · cases e
    · cases e
  · cases e
end
end RW
namespace RW
open PySem L2
/-! ### defs: from a body to a promise -/
def ent (nl : Nat) (ds : List D) : List (Option Cell) := ds.map (fun d => some ⟨d, false⟩) ++ List.replicate (nl - ds.length) none
def fnR {R : Type} (p : Fl × S R) : Option (Vr × R) := match p.1 with
  | .rt (.sh d) => some (.sh d, p.2.r)
  | .rt (.tmp d) => some (.tmp d, p.2.r)
  | .nx => some (.sh .non, p.2.r)
  | _ => none
def fnM {R : Type} (nl : Nat) (ms : MS R) : Fm R := fun ds r => (ms ⟨ent nl ds, r⟩).bind fnR
section
variable {g : G} {F H : Hp}
theorem ent_get {nl : Nat} {ds : List D} {i : Nat} {c : Cell} (e : (ent nl ds)[i]? = some (some c)) : c.own = false ∧ ds[i]? = some c.d := by
  unfold ent at e
  by_cases h : i < ds.length
  · rw [List.getElem?_append_left (by simpa using h), List.getElem?_map] at e
    cases q : ds[i]? with
    | none => rw [q] at e; cases e
    | some d => rw [q] at e; cases e; exact ⟨rfl, rfl⟩
  · rw [List.getElem?_append_right (by simpa using h), List.getElem?_replicate] at e
    split at e <;> cases e
theorem ent_own {nl : Nat} {ds : List D} {σ : St} {a : Addr} (h : Own σ (ent nl ds) a) : False := by
  obtain ⟨i, c, e1, e2, _⟩ := h
  rw [(ent_get e1).1] at e2; cases e2
theorem sim_ent {N : List Str} {vs : List V} {ds : List D} {r : g.R.S} (sub : Sub F H) (at_ : g.R.At r H) (ft : ∀ a, g.R.foot a → F a = none) (rep : RepAll g F vs ds) : Sim g F ⟨ent N.length ds, r⟩ (start N vs) H := by
  have hl := rep.length
  refine ⟨sub, at_, ft, ?_, fun i c e => ?_, fun i j ci cj a _ e1 _ o1 _ _ => ?_⟩
  · show (ent N.length ds).length = (start N vs).length
    unfold ent L2.start
    simp [hl]
  · obtain ⟨h1, h2⟩ := ent_get e
    obtain ⟨v, e3, rv⟩ := rep.get h2
    refine ⟨v, ?_, .inl ⟨h1, rv⟩⟩
    have hi : i < vs.length := (List.getElem?_eq_some_iff.mp e3).1
    unfold L2.start
    rw [List.getElem?_append_left (by simpa using hi), List.getElem?_map, e3]
    rfl
  · rw [(ent_get e1).1] at o1; cases o1
theorem left_of {F' H' : Hp} {nl : Nat} {ds : List D} {r : g.R.S} {σ σ' : St} {s' : S g.R.S} (I : Sim g F' s' σ' H') (k : Keep g F ⟨ent nl ds, r⟩ σ H F' s' σ' H') : Left g F H F' H' s'.r :=
  ⟨I.sub, I.at_, I.foot, k.grow, fun a o h nf => k.heap a o h ent_own nf, fun a o h nt q => k.nof a o h nt q ent_own, k.there⟩
theorem body_ok {N : List Str} {vs : List V} {ms : MS g.R.S} {Q : VK} {n : Nat} {E : XK} (h : spM g n (fnM N.length ms) vs H Q E) : tS g ms { nx := fun _ H' => Q .non H', rt := Q } (start N vs) H := by
  obtain ⟨F, r, ds, res, r', sub, at_, ft, rep, hl, e, k⟩ := h
  obtain ⟨⟨fl, s'⟩, e1, e2⟩ := Option.bind_eq_some_iff.mp e
  refine ⟨F, ⟨ent N.length ds, r⟩, fl, s', sim_ent sub at_ ft rep, e1, ?_⟩
  cases fl with
  | nx =>
    cases e2
    exact fun F' σ' H' I' K' => k F' .non H' (left_of I' K') .non
  | bk => cases e2
  | ct => cases e2
  | rt v =>
    cases v with
    | sl i => cases e2
    | sh d =>
      cases e2
      exact fun F' σ' v H' I' K' x => k F' v H' (left_of I' K') x
    | tmp d =>
      cases e2
      refine fun F' σ' v H' I' K' x => k F' v H' (left_of I' K') ?_
      obtain ⟨p, o, rfl, h0, h1⟩ := x
      exact ⟨p, o, rfl, h0.resolve_left ent_own, h1⟩
theorem sp_len {vs : List V} {mf : Fm g.R.S} {Q : VK} {n : Nat} {E : XK} (h : spM g n mf vs H Q E) : vs.length = n := by
  obtain ⟨F, r, ds, res, r', sub, at_, ft, rep, hl, _⟩ := h
  rw [rep.length, hl]
end
section
variable {g : G} {P : Program} {w : World} {mg : Str → Option Value} {base : Heap} {x qual : Str} {params : Arguments} {body : List Stmt} {scope : Scope} {dvs : List V} {kws : List (Str × V)} {f : Addr} {fd : FuncData}
/-- a def keeps its promise, by its body -/
theorem fn_ok {N ps : List Str} {k : Nat} {ms : MS g.R.S} (sy : ∃ u, base.get? sysModules = some u) (F : FunD g.K x qual params body scope dvs kws f fd) (S : FnScope N ps scope)
    (hb : ∀ (cdv : Value) (A : Around) (outer : List Env) (s : Shared) (H : Hp), XO g k (cxOf CX0 P w g.K mg base N qual scope f cdv A outer s H E0).nox → DB g (cxOf CX0 P w g.K mg base N qual scope f cdv A outer s H E0).nox body ms) :
    FnG P w g.K mg base (k + 1) f fd ps (spM g ps.length (fnM N.length ms)) :=
  FunD.okG F S (fun _ _ _ _ h => sp_len h) fun cdv A outer s H _ _ hr gd hsp => ⟨tS g ms, (hb cdv A outer s H ⟨rfl, hr, rfl, S.nd, deeper_guards gd, sy⟩).nox, body_ok hsp⟩
end
end RW
namespace RW
open PySem L2
section
variable {g : G} {X : Cx}
/-! ### calls: what follows the arguments -/
def mRest {R : Type} (mf : Fm R) (rs : List Vr) : M R Vr := fun s => (escAll rs s).bind fun z => (mf z.1 z.2.r).bind fun q =>
  match q.1 with
  | .sl _ => none
  | x => some (x, if isAtom x then { s with r := q.2 } else { z.2 with r := q.2 })
theorem call_core {n : Nat} {mf : Fm g.R.S} {rs : List Vr} {σ : St} {F H F1 H1 : Hp} {s s1 s' : S g.R.S} {res : Vr} {vs : List V} {Q : VK} {E : XK} (K1 : Keep g F s σ H F1 s1 σ H1) (I1 : Sim g F1 s1 σ H1) (w1 : WAll g F1 σ rs vs) (hl : vs.length = n) (e : mRest mf rs s1 = some (res, s'))
    (k : ∀ F' v H', Sim g F' s' σ H' → Keep g F s σ H F' s' σ H' → VOk g F' s' σ H H' res v → Q v H') : spM g n mf vs H1 Q E := by
  unfold mRest at e
  obtain ⟨z, e2, e⟩ := Option.bind_eq_some_iff.mp e
  obtain ⟨q, e3, e⟩ := Option.bind_eq_some_iff.mp e
  obtain ⟨F2, I2, K2, r2⟩ := escAll_ok I1 w1 e2
  refine ⟨F2, z.2.r, z.1, q.1, q.2, I2.sub, I2.at_, I2.foot, r2, by rw [← r2.length, hl], e3, fun F' v H' l r => ?_⟩
  have hres : q.1 = res ∧ s' = (if isAtom res then { s1 with r := q.2 } else { z.2 with r := q.2 }) := by
    revert e
    cases q.1 with
    | sl i => intro e; cases e
    | sh d => intro e; cases e; exact ⟨rfl, rfl⟩
    | tmp d => intro e; cases e; exact ⟨rfl, rfl⟩
  obtain ⟨hq, hs⟩ := hres
  rw [hq] at r
  cases ha : isAtom res with
  | true =>
    rw [ha, if_pos rfl] at hs
    subst hs
    obtain ⟨I3, K3⟩ := I1.left0 l
    refine k F1 v H' I3 (K1.trans K3 I3) ?_
    cases res with
    | sh d => exact atom_any ha r
    | tmp d => cases ha
    | sl i => cases ha
  | false =>
    rw [ha, if_neg Bool.false_ne_true] at hs
    subst hs
    obtain ⟨I3, K3⟩ := I2.left l
    refine k F' v H' I3 ((K1.trans K2 I2).trans K3 I3) ?_
    cases res with
    | sh d => exact r
    | tmp d =>
      obtain ⟨a, o, rfl, h0, h1, h2, h3, h4⟩ := r
      refine ⟨a, o, rfl, ?_, h1, h2, fun y => ?_, h3, h4⟩
      · cases u : H a with
        | none => rfl
        | some w => obtain ⟨o', e'⟩ := K1.there a w u; rw [h0] at e'; cases e'
      · obtain ⟨o', e', _⟩ := (I2.own_at (s := z.2) y).2.2
        rw [h0] at e'; cases e'
    | sl i => exact r.elim
/-! ### defs by name -/
abbrev FnP (K : PySem.W.Frag) (x qual : Str) (st : Stmt) (f : Addr) (fd : FuncData) : Prop := FunD K x qual (defArgs st) (defBody st) (defScope st) [] [] f fd
structure Fu (g : G) (P : Program) (w : World) (mg : Str → Option Value) (base : Heap) (k : Nat) (x qual : Str) (st : Stmt) (ps : List Str) (mf : Fm g.R.S) (f : Addr) : Prop where
  ex : ∃ fd, FnP g.K x qual st f fd ∧ FnG P w g.K mg base k f fd ps (spM g ps.length mf) ∧ Binds g.K fd ps []
theorem Fu.mono {P : Program} {w : World} {mg : Str → Option Value} {base : Heap} {j k : Nat} {x qual : Str} {st : Stmt} {ps : List Str} {mf : Fm g.R.S} {f : Addr} (h : Fu g P w mg base j x qual st ps mf f) (hk : j ≤ k) : Fu g P w mg base k x qual st ps mf f := by
  obtain ⟨fd, h1, h2, h3⟩ := h
  exact ⟨fd, h1, h2.mono hk, h3⟩
theorem fu_of {P : Program} {w : World} {mg : Str → Option Value} {base : Heap} {k : Nat} {x qual : Str} {st : Stmt} {N ps : List Str} {ms : MS g.R.S} {f : Addr} (sy : ∃ u, base.get? sysModules = some u) (F : ∃ fd, FnP g.K x qual st f fd) (S : FnScope N ps (defScope st))
    (bi : ∀ (kV doc pm : Value) (an : Option Addr) (cdv ct : Value) (us : List Value), us.length = ps.length → bindArgs (PySem.W.fnOf x qual (defArgs st) (defBody st) (defScope st) .none kV doc pm an cdv ct) ⟨us, []⟩ = pure (ps.zip us))
    (hb : ∀ (cdv : Value) (A : Around) (outer : List Env) (s : Shared) (H : Hp), XO g k (cxOf CX0 P w g.K mg base N qual (defScope st) f cdv A outer s H E0).nox → DB g (cxOf CX0 P w g.K mg base N qual (defScope st) f cdv A outer s H E0).nox (defBody st) ms) :
    Fu g P w mg base (k + 1) x qual st ps (fnM N.length ms) f := by
  obtain ⟨fd, F⟩ := F
  exact ⟨fd, F, fn_ok sy F S hb, F.bindsN bi⟩
theorem d_callF {k j : Nat} {f : Addr} {ps : List Str} {n : Nat} {mf : Fm g.R.S} {x : Str} {st : Stmt} {p pos : Pos} {e : Expr} {es : List Expr} {ma : M g.R.S (List Vr)} (F : Fu g X.prog X.w X.mg X.base j x x st ps mf f) (o : XO g k X) (hm : X.mg x = some (.ref f))
    (ha : DA g X n (e :: es) ma) (hg : Gl X x := by rfl) (hj : j ≤ k := by decide) (hn : ps.length = n := by rfl) (hdb : (x == ("__debug__" : Str)) = false := by decide) (he : starEach (e :: es) X.env = (false, eval e X.env) :: starEach es X.env := by rfl) (hpl : (backTo pos (starEach es X.env)).any (·.1) = false := by rfl) :
    DE g X (.Call (.Name x p) (e :: es) [] pos) (mCall mf ma) := by
  obtain ⟨fd, h1, h2, h3⟩ := F
  subst hn
  have K := o.K
  rw [← K] at h1 h2 h3
  exact d_call (h2.mono hj) o.rm o.gd hg hm h1.kp h3 ha hdb he hpl
/-! ### by keywords -/
def pickL {α : Type} (is : List Nat) (xs : List α) : List α := is.filterMap fun i => xs[i]?
theorem pickL_len {α : Type} {xs : List α} : ∀ {is : List Nat}, (∀ i ∈ is, i < xs.length) → (pickL is xs).length = is.length
  | [], _ => rfl
  | i :: is, h => by
    have := pickL_len (is := is) (xs := xs) fun j hj => h j (List.mem_cons_of_mem _ hj)
    unfold pickL at this ⊢
    rw [List.filterMap_cons, List.getElem?_eq_getElem (h i List.mem_cons_self)]
    simp [this]
theorem WAll.get {F : Hp} {σ : St} : ∀ {rs : List Vr} {vs : List V} (i : Nat), WAll g F σ rs vs → (∃ r v, rs[i]? = some r ∧ vs[i]? = some v ∧ WOk g F σ r v) ∨ (rs[i]? = none ∧ vs[i]? = none)
  | [], [], i, _ => .inr ⟨by simp, by simp⟩
  | r :: rs, v :: vs, i, h => by
    cases i with
    | zero => exact .inl ⟨r, v, rfl, rfl, h.1⟩
    | succ i => simpa using WAll.get i h.2
  | [], _ :: _, _, h => h.elim
  | _ :: _, [], _, h => h.elim
theorem WAll.pick {F : Hp} {σ : St} {rs : List Vr} {vs : List V} (h : WAll g F σ rs vs) : ∀ is : List Nat, WAll g F σ (pickL is rs) (pickL is vs)
  | [] => trivial
  | i :: is => by
    unfold pickL
    rw [List.filterMap_cons, List.filterMap_cons]
    rcases h.get i with ⟨r, v, e1, e2, e3⟩ | ⟨e1, e2⟩
    · rw [e1, e2]; exact ⟨e3, WAll.pick h is⟩
    · rw [e1, e2]; exact WAll.pick h is
theorem Vals.getO : ∀ {vs : List V} {us : List Value} (i : Nat), Vals vs us → (∃ r v, vs[i]? = some r ∧ us[i]? = some v ∧ RelV r v) ∨ (vs[i]? = none ∧ us[i]? = none)
  | _, _, i, .nil => .inr ⟨by simp, by simp⟩
  | _, _, i, .cons h t => by
    cases i with
    | zero => exact .inl ⟨_, _, rfl, rfl, h⟩
    | succ i => simpa using Vals.getO i t
theorem vals_pick {vs : List V} {us : List Value} (h : Vals vs us) : ∀ is : List Nat, Vals (pickL is vs) (pickL is us)
  | [] => .nil
  | i :: is => by
    unfold pickL
    rw [List.filterMap_cons, List.filterMap_cons]
    rcases Vals.getO i h with ⟨r, v, e1, e2, e3⟩ | ⟨e1, e2⟩
    · rw [e1, e2]; exact .cons e3 (vals_pick h is)
    · rw [e1, e2]; exact vals_pick h is
def DK (g : G) (X : Cx) (n : Nat) (ks : List Keyword) (m : M g.R.S (List Vr)) : Prop := PK X ks (tMV g n m)
theorem PK.imp {ks : List Keyword} {t t' : TA} (h : PK X ks t) (w : ∀ σ H Q, t' σ H Q → t σ H Q) : PK X ks t' := ⟨fun pos pins s σ H Q I q => h.run pos pins s σ H Q I (w _ _ _ q)⟩
theorem k_nil : DK g X 0 [] (mArgs []) := PK.imp pk_nil fun σ H Q ⟨F, s, rs, s', I, e, k⟩ => by
  cases e
  exact k F [] H I Keep.refl trivial rfl
theorem k_cons {nm : Option Str} {kp : Pos} {e : Expr} {ks : List Keyword} {n : Nat} {m : M g.R.S Vr} {ms : List (M g.R.S Vr)} (ha : DE g X e m) (hr : DK g X n ks (mArgs ms)) : DK g X (n + 1) (⟨nm, e, kp⟩ :: ks) (mArgs (m :: ms)) := by
  refine PK.imp (pk_cons ha hr) fun σ H Q ⟨F, s, rs, s', I, e, k⟩ => ?_
  unfold mArgs at e
  obtain ⟨p, e1, e⟩ := Option.bind_eq_some_iff.mp e
  obtain ⟨q, e2, e⟩ := Option.map_eq_some_iff.mp e
  cases e
  refine tM_soft I e1 fun F1 v H1 I1 K1 w1 => ?_
  refine ⟨F1, _, q.1, q.2, I1, e2, fun F2 vs H2 I2 K2 w2 hl => ?_⟩
  exact k F2 (v :: vs) H2 I2 (K1.trans K2 I2) ⟨w1.keep K2.grow, w2⟩ (by simp [hl])
def mCallK {R : Type} (is : List Nat) (mf : Fm R) (ma : M R (List Vr)) : M R Vr := fun s => (ma s).bind fun p => mRest mf (pickL is p.1) p.2
/-- f(k = v, ..): all by their names -/
theorem pe_kw0 {k : Nat} {f : Addr} {fd : FuncData} {ps ks : List Str} {sp : Sp} {x : Str} {p pos : Pos} {kws : List Keyword} {tk : TA} {gg : List Value → List Value → List Value} {gV : List V → List V → List V} (F : FnG X.prog X.w X.K X.mg X.base k f fd ps sp) (hr : Room k X.A) (gd : X.A.guards = some []) (hg : Gl X x) (hm : X.mg x = some (.ref f)) (hk : PySem.W.keepIn X.K (.ref f) = true) (hb : KBn X.K fd ps 0 ks gg gV) (hkw : PK X kws tk)
    (hall : (backToKw pos (keywordEach kws X.env)).all (·.1.isSome) = true) (hks : (backToKw pos (keywordEach kws X.env)).filterMap (·.1) = ks) (hdb : (x == ("__debug__" : Str)) = false)
    (hpl : ((backTo pos (starEach [] X.env)).any (·.1) || (backToKw pos (keywordEach kws X.env)).any (·.1.isNone)) = false) :
    PE X (.Call (.Name x p) [] kws pos) (fun σ H Q => tk σ H fun zs H1 => zs.length = ks.length ∧ sp (gV [] zs) H1 Q E0) := ⟨fun pins s σ H Q I h => by
  refine wpAny_Call_Name_kw (ld_glob I hg hm (PySem.W.callWith_KW0 (h₀ := X.base) I.ok.mod.kin hk hall ?_ hpl) hdb)
  refine thn (hkw.run pos pins s σ H _ I h) fun ws s2 ⟨zs, H2, I2, rz, l2, q2⟩ => ⟨I2.kIn, ?_⟩
  rw [hks]
  exact F.go1 hr gd I2 (hb.to _ [] ws I2.kIn rfl (rz.length.symm.trans l2)) (hb.rel .nil rz) q2⟩
theorem d_callK {k j : Nat} {f : Addr} {ps : List Str} {n : Nat} {mf : Fm g.R.S} {x : Str} {st : Stmt} {p pos : Pos} {kws : List Keyword} {ma : M g.R.S (List Vr)} (is : List Nat) (ks : List Str) (F : Fu g X.prog X.w X.mg X.base j x x st ps mf f) (o : XO g k X) (hm : X.mg x = some (.ref f))
    (hbd : ∀ (kV doc pm : Value) (an : Option Addr) (cdv ct : Value) (ws : List Value), ws.length = ks.length → bindArgs (PySem.W.fnOf x x (defArgs st) (defBody st) (defScope st) .none kV doc pm an cdv ct) ⟨[], ks.zip ws⟩ = pure (ps.zip (pickL is ws)))
    (ha : DK g X n kws ma) (hg : Gl X x := by rfl) (hj : j ≤ k := by decide) (hn : ks.length = n := by rfl) (hi : is.all (fun i => decide (i < n)) = true := by rfl) (hip : is.length = ps.length := by rfl) (hdb : (x == ("__debug__" : Str)) = false := by decide) (hall : (backToKw pos (keywordEach kws X.env)).all (·.1.isSome) = true := by rfl) (hks : (backToKw pos (keywordEach kws X.env)).filterMap (·.1) = ks := by rfl)
    (hpl : ((backTo pos (starEach [] X.env)).any (·.1) || (backToKw pos (keywordEach kws X.env)).any (·.1.isNone)) = false := by rfl) :
    DE g X (.Call (.Name x p) [] kws pos) (mCallK is mf ma) := by
  obtain ⟨fd, h1, h2, h3⟩ := F
  have K := o.K
  rw [← K] at h1 h2 h3
  have kb : KBn X.K fd ps 0 ks (fun _ ws => pickL is ws) (fun _ zs => pickL is zs) := by
    obtain ⟨oc, od, dV, kV, doc, pm, an, cdv, ct, osl, rfl, lk, hcd, hD, hK⟩ := h1.ex
    rcases hD with ⟨_, rfl⟩ | ⟨e, _⟩
    · refine ⟨fun s us ws _ l1 l2 => ?_, fun _ h => vals_pick h is⟩
      have : us = [] := List.length_eq_zero_iff.mp l1
      subst this
      exact .of_eq (hbd kV doc pm an cdv ct ws l2)
    · exact absurd rfl e
  refine PE.imp (pe_kw0 (h2.mono hj) o.rm o.gd hg hm h1.kp kb ha hall hks hdb hpl) fun σ H Q ⟨F, s, res, s', I, e, kk⟩ => ?_
  unfold mCallK at e
  obtain ⟨p, e1, e⟩ := Option.bind_eq_some_iff.mp e
  refine ⟨F, s, p.1, p.2, I, e1, fun F1 vs H1 I1 K1 w1 hl => ⟨by rw [hl, hn], ?_⟩⟩
  have hlen : (pickL is vs).length = ps.length := by
    rw [← hip]
    exact pickL_len fun i hm => by
      have := of_decide_eq_true (List.all_eq_true.mp hi i hm)
      omega
  exact call_core K1 I1 (w1.pick is) hlen e kk
end
end RW
namespace RW
open PySem L2
section
variable {g : G} {X : Cx}
/-! ### methods -/
def mMeth {R : Type} (c : Nat) (m : Str) (mf : Fm R) (ma : M R Vr) (mr : M R (List Vr)) : M R Vr := fun s => (ma s).bind fun p => match pk (soft p.1) p.2 with
  | some (.obj c' fs) => if c' = c ∧ (fs.lookup m).isNone then (mr p.2).bind fun q => mRest mf (soft p.1 :: q.1) q.2 else none
  | _ => none
theorem RepF.nolook {F : Hp} {f : Str} : ∀ {fs : List (Str × V)} {ds : List (Str × D)}, RepF g F fs ds → ds.lookup f = none → fs.lookup f = none
  | _, _, .nil, _ => rfl
  | _, _, .cons (f := f') h t, e => by
    rw [List.lookup_cons] at e ⊢
    cases hb : f == f' with
    | true => rw [hb] at e; cases e
    | false => rw [hb] at e; exact RepF.nolook t e
theorem tMeth_of {c n : Nat} {m : Str} {mf : Fm g.R.S} {ma : M g.R.S Vr} {mr : M g.R.S (List Vr)} {σ : St} {H : Hp} {Q : VK} (h : tM g (mMeth c m mf ma mr) σ H Q) : tMeth (g.cls c) m (spM g (n + 1) mf) [] E0 (tM g ma) (tMV g n mr) σ H Q := by
  obtain ⟨F, s, res, s', I, e, k⟩ := h
  unfold mMeth at e
  obtain ⟨p, e1, e0⟩ := Option.bind_eq_some_iff.mp e
  split at e0
  · rename_i c' fs hd
    split at e0
    · rename_i hc
      obtain ⟨rfl, hn⟩ := hc
      obtain ⟨q, e2, e3⟩ := Option.bind_eq_some_iff.mp e0
      refine tM_soft I e1 fun F1 v H1 I1 K1 w1 => ?_
      obtain ⟨a, dx, fv, rfl, h2, h3⟩ := (w1.pk I1 hd).obj I1.sub
      refine ⟨a, dx, fv, rfl, h2, h3.nolook (Option.isNone_iff_eq_none.mp hn), ?_⟩
      refine ⟨F1, p.2, q.1, q.2, I1, e2, fun F2 vs H2 I2 K2 w2 hl => ?_⟩
      show spM g (n + 1) mf (.ref a :: (vs ++ [])) H2 Q E0
      rw [List.append_nil]
      exact call_core (K1.trans K2 I2) I2 (rs := soft p.1 :: q.1) ⟨w1.keep K2.grow, w2⟩ (by simp [hl]) e3 k
    · cases e0
  · cases e0
theorem d_meth {k j : Nat} {f : Addr} {ps : List Str} {n : Nat} {mf : Fm g.R.S} {c : Nat} {m qual nm : Str} {st : Stmt} {apos pos : Pos} {o e : Expr} {es : List Expr} {ma : M g.R.S Vr} {mr : M g.R.S (List Vr)} {pl : Sem Bool} (F : Fu g X.prog X.w X.mg X.base j nm qual st ps mf f) (xo : XO g k X) (cl : Cls X.K (g.cls c)) (hm : Meth X.K (g.cls c) m f)
    (ho : DE g X o ma) (ha : DA g X n (e :: es) mr) (hj : j ≤ k := by decide) (hn : ps.length = n + 1 := by rfl) (hst : starEach (e :: es) X.env = (false, eval e X.env) :: starEach es X.env := by rfl) (hpl : (backTo pos (starEach es X.env)).any (·.1) = false := by rfl)
    (ht : eval (.Call (.Attribute o m apos) (e :: es) [] pos) X.env = (eval o X.env >>= fun ov => standAt apos.atName >>= fun _ => holding [ov] (getMethod ov m pl) >>= fun x => callWith pos x.1 x.2 (backTo pos (starEach (e :: es) X.env)) (backToKw pos (keywordEach [] X.env))) := by rfl) :
    DE g X (.Call (.Attribute o m apos) (e :: es) [] pos) (mMeth c m mf ma mr) := by
  obtain ⟨fd, h1, h2, h3⟩ := F
  have K := xo.K
  rw [← K] at h1 h2 h3
  rw [hn] at h2
  exact PE.imp (pg_meth ho cl hm (h2.mono hj) xo.rm xo.gd h3 ha hst hpl ht) fun σ H Q h => tMeth_of h
/-! ### properties -/
def mProp {R : Type} (c : Nat) (mf : Fm R) (ma : M R Vr) : M R Vr := fun s => (ma s).bind fun p => match pk (soft p.1) p.2 with
  | some (.obj c' _) => if c' = c then mRest mf [soft p.1] p.2 else none
  | _ => none
/-! ### the body of __init__: self stays the new object -/
def tSx (g : G) (x : Addr) (m : MS g.R.S) : TS := fun E σ H => ∃ F s s', Sim g F s σ H ∧ σ[0]? = some (some (.ref x)) ∧ m s = some (.nx, s') ∧ ∀ F' σ' H', Sim g F' s' σ' H' → Keep g F s σ H F' s' σ' H' → σ'[0]? = some (some (.ref x)) → E.nx σ' H'
def DSx (g : G) (X : Cx) (st : Stmt) (m : MS g.R.S) : Prop := ∀ x, PS X st (tSx g x m)
def DBx (g : G) (X : Cx) (sts : List Stmt) (m : MS g.R.S) : Prop := ∀ x, PSs X sts (tSx g x m)
def grd (x : Addr) (E : Ends) : Ends := { E with nx := fun σ' H' => σ'[0]? = some (some (.ref x)) → E.nx σ' H' }
theorem tSx_grd {x : Addr} {m : MS g.R.S} {E : Ends} {σ : St} {H : Hp} (h : tSx g x m E σ H) : σ[0]? = some (some (.ref x)) ∧ tS g m (grd x E) σ H := by
  obtain ⟨F, s, s', I, h0, e, k⟩ := h
  exact ⟨h0, F, s, .nx, s', I, e, k⟩
theorem tM_mono {m : M g.R.S Vr} {σ : St} {H : Hp} {Q Q' : VK} (h : tM g m σ H Q) (w : ∀ v H', Q v H' → Q' v H') : tM g m σ H Q' := by
  obtain ⟨F, s, r, s', I, e, k⟩ := h
  exact ⟨F, s, r, s', I, e, fun F' v H' a b c => w _ _ (k F' v H' a b c)⟩
theorem bx_nil : DBx g X [] mNx := fun x => PSs.imp pss_nil fun E σ H ⟨F, s, s', I, h0, e, k⟩ => by
  cases e
  exact k F σ H I Keep.refl h0
theorem bx_cons {st : Stmt} {rest : List Stmt} {m n : MS g.R.S} (h1 : DSx g X st m) (h2 : DBx g X rest n) : DBx g X (st :: rest) (mSeq m n) := fun x => by
  refine PSs.imp (pss_cons (h1 x) (h2 x)) fun E σ H ⟨F, s, s', I, h0, e, k⟩ => ?_
  unfold mSeq at e
  obtain ⟨⟨f, s1⟩, e1, e⟩ := Option.bind_eq_some_iff.mp e
  cases f with
  | nx => exact ⟨F, s, s1, I, h0, e1, fun F' σ' H' I' K' h0' => ⟨F', s1, s', I', h0', e, fun F2 σ2 H2 I2 K2 => k F2 σ2 H2 I2 (K'.trans K2 I2)⟩⟩
  | bk => cases e
  | ct => cases e
  | rt r => cases e
theorem sx_no {st : Stmt} : DSx g X st mNo := fun x => PS.imp ps_never fun E σ H ⟨F, s, s', I, h0, e, k⟩ => by cases e
theorem sx_if {c : Expr} {a b : List Stmt} {mc : M g.R.S Vr} {m n : MS g.R.S} {pos : Pos} (hc : DT g X c mc) (ha : DBx g X a m) (hb : DBx g X b n) : DSx g X (.If c a b pos) (mIte mc m n) := fun x => by
  refine PS.imp (ps_if hc (ha x) (hb x)) fun E σ H ⟨F, s, s', I, h0, e, k⟩ => ?_
  obtain ⟨c, s1, e1, e2⟩ := mIte_inv e
  refine ⟨F, s, c, s1, I, e1, fun F1 H1 I1 K1 => ?_⟩
  cases c with
  | true => exact ⟨F1, s1, s', I1, h0, e2, fun F' σ' H' I' K' => k F' σ' H' I' (K1.trans K' I')⟩
  | false => exact ⟨F1, s1, s', I1, h0, e2, fun F' σ' H' I' K' => k F' σ' H' I' (K1.trans K' I')⟩
theorem sx_set {i : Nat} {x : Str} {e : Expr} {ma : M g.R.S Vr} {pos' pos : Pos} (hN : X.N.Nodup) (he : DE g X e ma) (hi : X.N[i]? = some x := by rfl) (h0 : i ≠ 0 := by decide) (hx : Loc X.env.scope x := by first | exact Or.inl rfl | exact Or.inr rfl) (hs : swapsWith e (some (.Name x pos')) pos.line X.env = pure false := by rfl)
    (hf : X.fn x = true ∨ X.env.scope.names.lookup x = some .local := by first | exact .inl rfl | exact .inr rfl | assumption) : DSx g X (.Assign [.Name x pos'] e pos) (mSet i ma) := fun y => by
  refine PS.imp (ps_set hN hi hx he hs hf) fun E σ H h => ?_
  obtain ⟨hy, h⟩ := tSx_grd h
  exact tM_mono (tSet_of h) fun v H' q => q (by rw [List.getElem?_set_ne h0]; exact hy)
theorem sx_fld {c : Nat} {x f : Str} {e : Expr} {mv : M g.R.S Vr} {npos pos' pos : Pos} (cl : Cls X.K (g.cls c)) (na : NoAttr X.K (g.cls c) f) (h : PS X (.Assign [.Attribute (.Name x npos) f pos'] e pos) (sFld X.K (tVar 0) (tM g mv) f)) : DSx g X (.Assign [.Attribute (.Name x npos) f pos'] e pos) (mFld 0 c f mv) := fun y => by
  refine PS.imp h fun E σ H hx => ?_
  obtain ⟨hy, hx⟩ := tSx_grd hx
  have q := tFld_of cl na hx
  exact tM_mono q fun v H' ⟨z, ez, a, C, dx, fs, e1, e2, e3, e4, e5, k⟩ => ⟨z, ez, a, C, dx, fs, e1, e2, e3, e4, e5, k hy⟩
end
end RW
namespace RW
open PySem L2
/-! ### a comprehension's block, by a test -/
def blkB (N : List Str) (sc scope : Scope) (own : List (Str × Nat)) : Bool :=
  decide (scope.kind = .function) && (scope.names.all (fun y => decide (scope.names.lookup y.1 = some y.2)) && (own.all (fun p => decide (N[p.2]? = some p.1)) &&
    (scope.names.all (fun y => !decide (y.2 = .free) || (decide (sc.names.lookup y.1 = some .cell) || decide (sc.names.lookup y.1 = some .free))) &&
      scope.names.all (fun y => !(decide (y.2 = .local) || decide (y.2 = .cell)) || (decide (y.1 ∈ own.map (·.1)) || decide (y.1 ∉ N))))))
theorem blk_of {N : List Str} {sc scope : Scope} {own : List (Str × Nat)} (h : blkB N sc scope own = true) : BlkOk N sc scope own := by
  unfold blkB at h
  simp only [Bool.and_eq_true, List.all_eq_true, decide_eq_true_eq, Bool.or_eq_true, Bool.not_eq_true', decide_eq_false_iff_not] at h
  obtain ⟨h1, h2, h3, h4, h5⟩ := h
  refine ⟨h1, h2, h3, fun y hy e => ?_, fun y hy e => ?_⟩
  · rcases h4 y hy with z | z
    · exact absurd e z
    · exact z
  · rcases h5 y hy with z | z
    · rcases e with e | e <;> simp [e] at z
    · exact z
end RW
namespace RW
open PySem L2
section
variable {g : G} {X : Cx} {F F' H H' : Hp}
theorem Pk.ext {v : V} {d : D} (p : Pk g F H v d) (x : Ext F H F' H') : Pk g F' H' v d := by
  rcases p with p | ⟨a, o, rfl, e, p⟩
  · exact .inl (p.mono x.le)
  · exact .inr ⟨a, o, rfl, x.heap _ _ e, p.mono x.le⟩
/-! ### isinstance -/
def tyN : D → Option String
  | .non => some "NoneType"
  | .bl _ => some "bool"
  | .int _ => some "int"
  | .str _ => some "str"
  | .lst _ => some "list"
  | .tup _ => some "tuple"
  | .dct false _ => some "dict"
  | _ => none
theorem Pk.ty {v : V} {d : D} {n : String} (h : Sub F H) (p : Pk g F H v d) (e : tyN d = some n) : TyX g.K H v (.type n) := by
  cases d with
  | non => cases e; obtain rfl := p.non; exact .base .non
  | bl b => cases e; obtain rfl := p.bl; exact .base (.bl _)
  | int b => cases e; obtain rfl := p.int; exact .base (.int _)
  | str b => cases e; obtain rfl := p.str; exact .base (.str _)
  | lst b => cases e; obtain ⟨a, xs, rfl, h1, _⟩ := p.lst h; exact .base (.lst h1)
  | tup b =>
    cases e
    obtain ⟨a, xs, rfl, h1, _⟩ := p.tup h
    rcases h1 with (h1 | ⟨ob, h1⟩) | ⟨o, its, n, h1, h2, _⟩
    · exact .base (.tup h1)
    · exact .fTuple h1
    · exact .kTuple h1 h2
  | dct t es =>
    cases t with
    | true => cases e
    | false =>
      cases e
      obtain ⟨a, kvs, rfl, h1, _⟩ := p.dK h
      rcases h1 with h1 | ⟨ob, h1⟩
      · exact .base (.dK h1)
      · exact .fDict h1
  | _ => cases e
/-- a is b, or lies below it -/
def isT (a b : String) : Bool := (a == b) || (a == "bool" && b == "int")
def tyL : List String := ["NoneType", "bool", "int", "str", "list", "tuple", "dict"]
theorem kitL : (tyL.all fun a => (["str", "list", "tuple", "dict", "int", "bool"] : List String).all fun b => decide (kitB a b = some (isT a b))) = true := by decide +kernel
theorem kit_is {a b : String} (ha : a ∈ tyL) (hb : b ∈ (["str", "list", "tuple", "dict", "int", "bool"] : List String)) : kitB a b = some (isT a b) :=
  of_decide_eq_true (List.all_eq_true.mp (List.all_eq_true.mp kitL a ha) b hb)
theorem tyN_mem {d : D} {n : String} (e : tyN d = some n) : n ∈ tyL := by
  unfold tyN at e
  split at e <;> first | cases e; decide | cases e
def isiD (b : String) (d : D) : Option Vr := (tyN d).map fun a => .sh (.bl (isT a b))
def isiD2 (b b' : String) (d : D) : Option Vr := (tyN d).map fun a => .sh (.bl (isT a b || isT a b'))
theorem boot_isi : bootBuiltins "isinstance" = some (.builtin "isinstance") := by with_unfolding_all rfl
theorem p_isi {b : String} (hb : b ∈ (["str", "list", "tuple", "dict", "int", "bool"] : List String)) : Op1 g (isiD b) (fun x H Q => rIsi g.K [x, .ty b] H Q) := by
  refine ⟨fun x z e i => ?_, fun F H x dx z Q s p e n => ?_⟩
  · obtain ⟨a, _, rfl⟩ := Option.map_eq_some_iff.mp e
    exact fun z => nomatch z
  · obtain ⟨a, ea, rfl⟩ := Option.map_eq_some_iff.mp e
    exact ⟨x, .ty b, _, _, _, rfl, .ty b, p.ty s ea, kit_ty (kit_is (tyN_mem ea) hb), n F _ H (Ext.refl s) (.bl _)⟩
theorem d_isi {b : Str} {bs : String} {a : Expr} {ma : M g.R.S Vr} {p pos p2 : Pos} {k : Nat} (o : XO g k X) (hg : Gl X "isinstance") (hm : X.mg "isinstance" = none) (hg2 : Gl X b) (hm2 : X.mg b = none) (ha : DE g X a ma) (hv : bootBuiltins b = some (.type bs) := by with_unfolding_all rfl) (hb : bs ∈ (["str", "list", "tuple", "dict", "int", "bool"] : List String) := by decide)
    (hn : b ≠ "__name__" := by decide) (hd : (b == ("__debug__" : Str)) = false := by decide)
    (he : starEach [a, .Name b p2] X.env = (false, eval a X.env) :: starEach [.Name b p2] X.env := by rfl) (he2 : starEach [.Name b p2] X.env = (false, eval (.Name b p2) X.env) :: starEach [] X.env := by rfl) (hpl : (backTo pos (starEach [.Name b p2] X.env)).any (·.1) = false := by rfl) :
    DE g X (.Call (.Name "isinstance" p) [a, .Name b p2] [] pos) (mOp1 (isiD bs) ma) :=
  PE.imp (pe_callB call_isi hg hm boot_isi (pa_cons ha (pa_cons (pe_bltn hg2 hm2 hv (v := .ty bs) rfl hn hd) pa_nil he2) he) (by decide) (by decide) he hpl) fun σ H Q h => by
    have q := tOp1_of (p_isi (g := g) hb) h
    rw [← o.K] at q
    exact q
theorem p_isi2 {b b' : String} (hb : b ∈ (["str", "list", "tuple", "dict", "int", "bool"] : List String)) (hb' : b' ∈ (["str", "list", "tuple", "dict", "int", "bool"] : List String)) :
    Op1 g (isiD2 b b') (fun x H Q => ([V.ty b, V.ty b'] : List V).length ≤ sizeLine ∧ ∀ p, H p = none → rIsiT g.K [x, .ref p] (upd H p (.tup [.ty b, .ty b'])) Q) := by
  refine ⟨fun x z e i => ?_, fun F H x dx z Q s p e n => ⟨by show 2 ≤ sizeLine; decide, fun a ha => ?_⟩⟩
  · obtain ⟨a, _, rfl⟩ := Option.map_eq_some_iff.mp e
    exact fun z => nomatch z
  · obtain ⟨t, ea, rfl⟩ := Option.map_eq_some_iff.mp e
    have x' : Ext F H F (upd H a (.tup [.ty b, .ty b'])) := Ext.tmp s ha
    refine ⟨x, a, _, _, _, _, rfl, upd_same, .cons (.ty b) (.cons (.ty b') .nil), (p.ext x').ty x'.sub ea, ?_, n F _ _ x' (.bl _)⟩
    refine kitAny_cons (kit_ty (kit_is (tyN_mem ea) hb)) (fun h1 => kitAny_cons (kit_ty (kit_is (tyN_mem ea) hb')) (fun h2 => ?_) (fun h2 => ?_)) (fun h1 => ?_)
    · rw [h1, h2]; exact kitAny_nil
    · rw [h2, Bool.or_true]
    · rw [h1, Bool.true_or]
theorem d_isi2 {b b' : Str} {bs bs' : String} {a : Expr} {ma : M g.R.S Vr} {p pos p2 p3 p4 : Pos} {x1} {k : Nat} (o : XO g k X) (hg : Gl X "isinstance") (hm : X.mg "isinstance" = none) (hg2 : Gl X b) (hm2 : X.mg b = none) (hg3 : Gl X b') (hm3 : X.mg b' = none) (ha : DE g X a ma) (hv : bootBuiltins b = some (.type bs) := by with_unfolding_all rfl) (hv' : bootBuiltins b' = some (.type bs') := by with_unfolding_all rfl)
    (hb : bs ∈ (["str", "list", "tuple", "dict", "int", "bool"] : List String) := by decide) (hb' : bs' ∈ (["str", "list", "tuple", "dict", "int", "bool"] : List String) := by decide)
    (hn : b ≠ "__name__" := by decide) (hd : (b == ("__debug__" : Str)) = false := by decide) (hn' : b' ≠ "__name__" := by decide) (hd' : (b' == ("__debug__" : Str)) = false := by decide)
    (he : starEach [a, .Tuple [.Name b p2, .Name b' p3] x1 p4] X.env = (false, eval a X.env) :: starEach [.Tuple [.Name b p2, .Name b' p3] x1 p4] X.env := by rfl) (he2 : starEach [.Tuple [.Name b p2, .Name b' p3] x1 p4] X.env = (false, eval (.Tuple [.Name b p2, .Name b' p3] x1 p4) X.env) :: starEach [] X.env := by rfl)
    (he3 : starEach [.Name b p2, .Name b' p3] X.env = (false, eval (.Name b p2) X.env) :: starEach [.Name b' p3] X.env := by rfl) (he4 : starEach [.Name b' p3] X.env = (false, eval (.Name b' p3) X.env) :: starEach [] X.env := by rfl) (hpl : (backTo pos (starEach [.Tuple [.Name b p2, .Name b' p3] x1 p4] X.env)).any (·.1) = false := by rfl) :
    DE g X (.Call (.Name "isinstance" p) [a, .Tuple [.Name b p2, .Name b' p3] x1 p4] [] pos) (mOp1 (isiD2 bs bs') ma) :=
  PE.imp (pe_callB call_isiT hg hm boot_isi (pa_cons ha (pa_cons (pe_tup (pa_cons (pe_bltn hg2 hm2 hv (v := .ty bs) rfl hn hd) (pa_cons (pe_bltn hg3 hm3 hv' (v := .ty bs') rfl hn' hd') pa_nil he4) he3)) pa_nil he2) he) (by decide) (by decide) he hpl) fun σ H Q h => by
    have q := tOp1_of (p_isi2 (g := g) hb hb') h
    rw [← o.K] at q
    exact q
/-- what K tells of a class of one's own -/
structure IsC (K : PySem.W.Frag) (C : Addr) : Prop where
  cl : Cls K C
  ha : PySem.W.findIn K (.ref C) "__class__" = some (some (.builtin "object.__class__"))
  hn : PySem.W.specialIn K (.builtin "object.__class__") "__get__" = some (some (.builtin "getset_descriptor.__get__"))
  htk : PySem.W.takesIn K (.builtin "object.__class__") = some true
  hm : PySem.W.mroIn K C (.type "object") = some true
def isiC (c : Nat) : D → Option Vr
  | .obj c' _ => if c' = c then some (.sh (.bl true)) else none
  | _ => none
theorem p_isiC {c : Nat} (ic : IsC g.K (g.cls c)) : Op1 g (isiC c) (fun x H Q => rIsi g.K [x, .ref (g.cls c)] H Q) := by
  refine ⟨fun x z e i => ?_, fun F H x dx z Q s p e n => ?_⟩
  · unfold isiC at e
    split at e
    · split at e
      · cases e; exact fun z => nomatch z
      · cases e
    · cases e
  · unfold isiC at e
    split at e
    · split at e
      · rename_i hc
        subst hc
        cases e
        obtain ⟨a, dx, fs, rfl, h1, _⟩ := p.obj s
        refine ⟨_, _, _, _, true, rfl, .own _, .base (.ins h1 ic.cl ic.ha ic.hn ic.htk ic.hm), ?_, n F _ H (Ext.refl s) (.bl _)⟩
        unfold PySem.W.kitOne
        rw [if_pos (by simp)]
      · cases e
    · cases e
theorem d_isiC {b : Str} {a : Expr} {ma : M g.R.S Vr} {p pos p2 : Pos} {k : Nat} (c : Nat) (o : XO g k X) (hg : Gl X "isinstance") (hm : X.mg "isinstance" = none) (hg2 : Gl X b) (hm2 : X.mg b = some (.ref (g.cls c))) (ic : IsC g.K (g.cls c)) (ha : DE g X a ma)
    (hd : (b == ("__debug__" : Str)) = false := by decide)
    (he : starEach [a, .Name b p2] X.env = (false, eval a X.env) :: starEach [.Name b p2] X.env := by rfl) (he2 : starEach [.Name b p2] X.env = (false, eval (.Name b p2) X.env) :: starEach [] X.env := by rfl) (hpl : (backTo pos (starEach [.Name b p2] X.env)).any (·.1) = false := by rfl) :
    DE g X (.Call (.Name "isinstance" p) [a, .Name b p2] [] pos) (mOp1 (isiC c) ma) :=
  PE.imp (pe_callB call_isi hg hm boot_isi (pa_cons ha (pa_cons (pe_glob hg2 hm2 (v := .ref (g.cls c)) rfl hd) pa_nil he2) he) (by decide) (by decide) he hpl) fun σ H Q h => by
    have q := tOp1_of (p_isiC ic) h
    rw [← o.K] at q
    exact q
/-! ### zip -/
theorem it_zipL {a b : Addr} {xs ys : List V} {ds es : List D} (ea : F a = some (.lst xs)) (eb : F b = some (.lst ys)) (r : RepAll g F xs ds) (q : RepAll g F ys es) : IterOk g F H (Itz g.K a b) (zipOf ds es) := by
  refine ⟨fun F2 H2 le s _ i d hd => ?_, fun F2 H2 le s _ => ⟨xs, ys, SqL.of (s.at_ (le _ _ ea) nd_lst), SqL.of (s.at_ (le _ _ eb) nd_lst), ?_⟩⟩
  · have h2 : H2 a = some (.lst xs) := s.at_ (le _ _ ea) nd_lst
    have h2' : H2 b = some (.lst ys) := s.at_ (le _ _ eb) nd_lst
    unfold zipOf at hd
    rw [List.getElem?_map] at hd
    obtain ⟨⟨d1, d2⟩, hq, rfl⟩ := Option.map_eq_some_iff.mp hd
    rw [List.getElem?_zip_eq_some] at hq
    obtain ⟨x, h3, h4⟩ := r.get hq.1
    obtain ⟨y, h3', h4'⟩ := q.get hq.2
    refine ⟨⟨xs, ys, x, y, SqL.of h2, SqL.of h2', h3, h3'⟩, fun z H3 ⟨T, x', y', h5, h6, h7, h8, h9⟩ => ?_⟩
    have := h8 xs (SqL.of h2)
    rw [h3] at this; cases this
    have := h9 ys (SqL.of h2')
    rw [h3'] at this; cases this
    subst h7
    have xx : Ext F2 H2 (upd F2 T (.tup [x, y])) (upd H2 T (.tup [x, y])) := Ext.new s h6
    refine ⟨_, xx, ?_⟩
    rw [h5]
    exact .tup upd_same (.cons (h4.mono (le.trans xx.le)) (.cons (h4'.mono (le.trans xx.le)) .nil))
  · have := r.length; have := q.length
    simp [zipOf]
    omega
theorem it_zipT {a b : Addr} {xs ys : List V} {ds es : List D} (ea : ∀ F2 H2, Le F F2 → Sub F2 H2 → SqT g.K H2 a xs) (eb : ∀ F2 H2, Le F F2 → Sub F2 H2 → SqT g.K H2 b ys) (r : RepAll g F xs ds) (q : RepAll g F ys es) : IterOk g F H (RZ.ItzT g.K a b) (zipOf ds es) := by
  refine ⟨fun F2 H2 le s _ i d hd => ?_, fun F2 H2 le s _ => ⟨xs, ys, ea F2 H2 le s, eb F2 H2 le s, ?_⟩⟩
  · have h2 := ea F2 H2 le s
    have h2' := eb F2 H2 le s
    unfold zipOf at hd
    rw [List.getElem?_map] at hd
    obtain ⟨⟨d1, d2⟩, hq, rfl⟩ := Option.map_eq_some_iff.mp hd
    rw [List.getElem?_zip_eq_some] at hq
    obtain ⟨x, h3, h4⟩ := r.get hq.1
    obtain ⟨y, h3', h4'⟩ := q.get hq.2
    refine ⟨⟨xs, ys, x, y, h2, h2', h3, h3'⟩, fun z H3 ⟨T, x', y', h5, h6, h7, h8, h9⟩ => ?_⟩
    have := h8 xs h2
    rw [h3] at this; cases this
    have := h9 ys h2'
    rw [h3'] at this; cases this
    subst h7
    have xx : Ext F2 H2 (upd F2 T (.tup [x, y])) (upd H2 T (.tup [x, y])) := Ext.new s h6
    refine ⟨_, xx, ?_⟩
    rw [h5]
    exact .tup upd_same (.cons (h4.mono (le.trans xx.le)) (.cons (h4'.mono (le.trans xx.le)) .nil))
  · have := r.length; have := q.length
    simp [zipOf]
    omega
def zipI : List D → Option (List D)
  | [.lst ds, .lst es] => some (zipOf ds es)
  | [.tup ds, .tup es] => some (zipOf ds es)
  | _ => none
def mZip {R : Type} (ma : M R (List Vr)) : M R (List D) := fun s => (ma s).bind fun p => (escAll p.1 p.2).bind fun q => (zipI q.1).map fun ds => (ds, q.2)
theorem i_zip {e e2 : Expr} {ma : M g.R.S (List Vr)} {p pos tpos : Pos} {elts : List Expr} {kk : Nat} {k : Nat} (o : XO g k X) (hg : Gl X "zip") (hm : X.mg "zip" = none) (ha : DA g X 2 [e, e2] ma)
    (hs : starEach [e, e2] X.env = (false, eval e X.env) :: starEach [e2] X.env := by rfl) (hpl : (backTo pos (starEach [e2] X.env)).any (·.1) = false := by rfl) :
    DI g X (.Tuple elts kk tpos) (.Call (.Name "zip" p) [e, e2] [] pos) (mZip ma) := by
  refine PI.imp (RZ.pi_zipA hg hm ha hs hpl) fun σ H R ⟨F, s, ds, s', I, e, k⟩ => ?_
  unfold mZip at e
  obtain ⟨p, e1, e0⟩ := Option.bind_eq_some_iff.mp e
  obtain ⟨q, e2, e0⟩ := Option.bind_eq_some_iff.mp e0
  obtain ⟨zs, e3, e0⟩ := Option.map_eq_some_iff.mp e0
  cases e0
  refine ⟨F, s, p.1, p.2, I, e1, fun F1 vs H1 I1 K1 w1 hl => ?_⟩
  obtain ⟨F2, I2, K2, r2⟩ := escAll_ok I1 w1 e2
  have K12 := K1.trans K2 I2
  unfold zipI at e3
  split at e3
  · rename_i d1 d2 hq
    cases e3
    rw [hq] at r2
    cases r2 with
    | cons r1 r2 =>
      cases r2 with
      | cons r2 r3 =>
        cases r3
        obtain ⟨a, xs, rfl, h1, h2⟩ := r1.lstIn
        obtain ⟨b, ys, rfl, h3, h4⟩ := r2.lstIn
        refine ⟨a, b, xs, ys, rfl, .inl ⟨SqL.of (I2.sub.at_ h1 nd_lst), SqL.of (I2.sub.at_ h3 nd_lst), ?_⟩⟩
        rw [o.K]
        exact k F2 H1 H1 _ I2 K12 (.inl rfl) (it_zipL h1 h3 h2 h4)
  · rename_i d1 d2 hq
    cases e3
    rw [hq] at r2
    cases r2 with
    | cons r1 r2 =>
      cases r2 with
      | cons r2 r3 =>
        cases r3
        obtain ⟨a, xs, rfl, h1, h2⟩ := r1.tupIn
        obtain ⟨b, ys, rfl, h3, h4⟩ := r2.tupIn
        refine ⟨a, b, xs, ys, rfl, .inr ⟨by rw [o.K]; exact h1.sq I2.sub, by rw [o.K]; exact h3.sq I2.sub, ?_⟩⟩
        rw [o.K]
        exact k F2 H1 H1 _ I2 K12 (.inl rfl) (it_zipT (fun F3 H3 le s => (h1.mono le).sq s) (fun F3 H3 le s => (h3.mono le).sq s) h2 h4)
  · cases e3
end
end RW
set_option maxHeartbeats 4000000
/-! sets of any number of texts: how many there are -/
namespace RW.SetTx
open PySem PySem.Spec PyProof.Rows
/-- the different ones, as they are met -/
def ddS (xs : List Str) : List Str := xs.foldl (fun acc x => if acc.any (· == x) then acc else acc ++ [x]) []
theorem ddS_snoc (xs : List Str) (x : Str) : ddS (xs ++ [x]) = if (ddS xs).any (· == x) then ddS xs else ddS xs ++ [x] := by
  unfold ddS
  rw [List.foldl_append]
  rfl
theorem ddS_any : ∀ (n : Nat) (xs : List Str), xs.length = n → ∀ k : Str, (ddS xs).any (· == k) = xs.any (· == k) := by
  intro n
  induction n with
  | zero =>
    intro xs h
    have : xs = [] := List.length_eq_zero_iff.mp h
    subst this
    exact fun _ => rfl
  | succ n ih =>
    intro xs h k
    have hne : xs ≠ [] := fun z => by rw [z] at h; cases h
    obtain ⟨ys, y, rfl⟩ : ∃ ys y, xs = ys ++ [y] := ⟨_, _, (List.dropLast_concat_getLast hne).symm⟩
    have hl : ys.length = n := by simpa using h
    rw [ddS_snoc, List.any_append]
    split
    · rename_i hy
      rw [ih ys hl y] at hy
      rw [ih ys hl k]
      cases hk : ys.any (· == k) with
      | true => rfl
      | false =>
        cases e : (y == k) with
        | false => simp [e]
        | true =>
          have := eq_of_beq e
          subst this
          rw [hk] at hy; cases hy
    · rw [List.any_append, ih ys hl k]
theorem ddS_len (xs : List Str) : (ddS xs).length ≤ xs.length := by
  have : ∀ (n : Nat) (xs : List Str), xs.length = n → (ddS xs).length ≤ n := by
    intro n
    induction n with
    | zero =>
      intro xs h
      have : xs = [] := List.length_eq_zero_iff.mp h
      subst this
      exact Nat.le_refl _
    | succ n ih =>
      intro xs h
      have hne : xs ≠ [] := fun z => by rw [z] at h; cases h
      obtain ⟨ys, y, rfl⟩ : ∃ ys y, xs = ys ++ [y] := ⟨_, _, (List.dropLast_concat_getLast hne).symm⟩
      have hl : ys.length = n := by simpa using h
      have := ih ys hl
      rw [ddS_snoc]
      split
      · omega
      · rw [List.length_append]; simp; omega
  exact this _ _ rfl
section
variable {prog : Program} {w : World} {A : Around}
abbrev Has (prog : Program) (w : World) (h : Heap) (S : Addr) (ys : List Str) : Prop := h.SetOf (PySem.strKind prog w) S (fun k' => ys.any (· == k')) (ddS ys).length
theorem Has.at {h h' : Heap} {S : Addr} {ys : List Str} (R : Has prog w h S ys) (k : ∀ o, h.get? S = some o → h'.get? S = some o) : Has prog w h' S ys :=
  let ⟨o, es, ep, tb, ho, rest⟩ := R
  ⟨o, es, ep, tb, k o ho, rest⟩
theorem loop {R : Result → Shared → Prop} {I : Addr} {fp wr : List Addr} {G : Array GenState → Array GenState → Prop} {n : Nat} {P : Nat → Value → Prop} {St : Nat → Shared → Prop} (W : WalksS prog w A.in1 I fp wr G n P St) (S : Addr) (nS : S ∉ fp) (xs : List Str) (hz : xs.length = n) (few : n < 4000)
    (vl : ∀ i v, P i v → ∃ t, v = .str (xs.getD i Str.empty) t) : ∀ (k i : Nat) (s : Shared), n - i = k → i ≤ n → St i s → Has prog w s.heap S (xs.take i) →
      (∀ s', Moved (S :: wr) G s s' → Has prog w s'.heap S xs → R (.ok (.ret .none)) s') → codeAny (model prog w) A (.builtin "set.update.loop" ⟨[.ref S, .ref I], []⟩) R s := by
  have nW : S ∉ wr := fun z => nS (W.sub _ z)
  have sb : ∀ b ∈ wr, b ∈ S :: wr := fun b hb => List.mem_cons_of_mem _ hb
  intro k
  induction k with
  | zero =>
    intro i s hk hi st hS hR
    refine codeAny_builtin PyProof.Rows.F.entry_set_update_loop (by
      rw [Around.under_plainId PyProof.Rows.F.plain_set_update_loop _]
      show wpAny _ A.in1 (pyNext (.ref I) >>= _) _ _ s
      have ei : i = n := by omega
      subst ei
      refine wpAny_bind (W.done s _ _ st fun s' hm => ?_)
      show wpAny _ A.in1 (ret Value.none) _ _ s'
      rw [List.take_of_length_le (by omega)] at hS
      exact wpAny_pure (hR s' (hm.mono sb) (hS.at fun o e => hm.heap S _ nW e)))
  | succ k ih =>
    intro i s hk hi st hS hR
    have lt : i < n := by omega
    refine codeAny_builtin PyProof.Rows.F.entry_set_update_loop (by
      rw [Around.under_plainId PyProof.Rows.F.plain_set_update_loop _]
      show wpAny _ A.in1 (pyNext (.ref I) >>= _) _ _ s
      refine wpAny_bind (W.item i s _ _ lt st fun v s' hP st' hm => ?_)
      obtain ⟨t, rfl⟩ := vl i v hP
      have hS1 := hS.at (h' := s'.heap) fun o e => hm.heap S _ nW e
      show wpAny _ A.in1 (holding [Value.str (xs.getD i Str.empty) t] (setAdd S (.str (xs.getD i Str.empty) t)) >>= _) _ _ s'
      have lz : i < xs.length := by omega
      have et : xs.take (i + 1) = xs.take i ++ [xs.getD i Str.empty] := by
        rw [List.take_add_one, List.getElem?_eq_getElem lz, List.getD_eq_getElem?_getD, List.getElem?_eq_getElem lz]
        rfl
      have cl : (ddS (xs.take i)).length ≤ i := Nat.le_trans (ddS_len _) (List.length_take_le _ _)
      refine wpAny_bind (wpAny_holding (by
        unfold setAdd
        refine wpAny_holding (wpAny_bind ((PySem.strKind prog w).pyHash (k := xs.getD i Str.empty) (strKind_is _ _ _ _) ?_))
        refine wpAny_setAddHashed_of (knd := PySem.strKind prog w) (s := { s' with toks := s'.toks + 1 }) (strKind_is _ _ _ _) rfl hS1 (by unfold scanBound; omega) fun h' hsb hS2 => ?_
        have hS3 : Has prog w h' S (xs.take (i + 1)) := by
          rw [et]
          refine PyProof.Rows.SetOf_congr hS2 (fun k' => ?_) ?_
          · rw [List.any_append]
            congr 1
            by_cases e : k' = xs.getD i Str.empty
            · subst e; simp
            · have hb : (xs.getD i Str.empty == k') = false := by simpa [beq_iff_eq] using (fun z : xs.getD i Str.empty = k' => e z.symm)
              simp only [List.any_cons, List.any_nil, hb, Bool.or_false]
              exact decide_eq_false e
          · rw [ddS_snoc, ddS_any _ _ rfl]
            split
            · rfl
            · rw [List.length_append]; rfl
        refine wpAny_pure ⟨plainId_quiet PyProof.Rows.F.plain_set_update_loop _, ih (i + 1) _ (by omega) lt (W.frame _ s' _ _ st' (Nat.le_succ _) fun b hb o e => ?_) hS3 fun s'' hm'' hS'' => ?_⟩
        · rw [hsb.2 b (fun z : b = S => nS (by rw [← z]; exact hb))]; exact e
        · refine hR s'' (Moved.trans W.gtrans ((hm.mono sb).then_heap (Nat.le_succ _) fun b o hb e => ?_) hm'') hS''
          rw [hsb.2 b (fun z : b = S => hb (by rw [z]; exact List.mem_cons_self))]; exact e)))
/-- what is walked: a list or a tuple -/
structure Src (prog : Program) (w : World) (T : String) (l : Addr) (ob : Obj) (items : Array Value) (oI : Heap → Obj) (St : Addr → Nat → Heap → Prop) : Prop where
  cls : ob.cls = .type T
  set : isSubtype (.type T) (.type "set") = pure false
  froz : isSubtype (.type T) (.type "frozenset") = pure false
  dict : (Value.type T == Value.type "dict") = false
  iter : ∀ (A : Around) (E : Value → Shared → Prop) (s : Shared) (Q : Value → Shared → Prop), s.heap.get? l = some ob → Q (.ref s.heap.objs.size) { s with heap := s.heap.push (oI s.heap) } → wpAny (model prog w) A (pyIter (.ref l)) Q E s
  walk : ∀ (A : Around) (h : Heap), A.handled = none → l ≠ h.objs.size → Walks prog w A h.objs.size [h.objs.size, l] [h.objs.size] items.size (fun i v => items[i]? = some v) (St h.objs.size)
  init : ∀ h : Heap, h.get? l = some ob → St h.objs.size 0 (h.push (oI h))
theorem call_set {T : String} {l : Addr} {ob : Obj} {items : Array Value} {oI : Heap → Obj} {St : Addr → Nat → Heap → Prop} {xs : List Str} {E : Value → Shared → Prop} {s : Shared} {Q : Value → Shared → Prop} (src : Src prog w T l ob items oI St) (hol : s.heap.get? l = some ob)
    (hh : A.handled = none) (hi : StrsAre items.toList xs) (few : xs.length < 4000)
    (hq : ∀ (h' : Heap) (tk : Nat), Has prog w h' s.heap.objs.size xs → (∀ b o, b < s.heap.objs.size → s.heap.get? b = some o → h'.get? b = some o) → Q (.ref s.heap.objs.size) { s with heap := h', toks := tk }) :
    wpAny (model prog w) A (call (.type "set") [.ref l]) Q E s := by
  obtain ⟨c, tl, hmro⟩ := PySem.F.called_set.mro
  have ⟨hmade, hsub⟩ := And.intro PySem.F.called_set.made PySem.F.called_set.sub
  refine wpAny_call (codeAny_of_tree (show wpAny _ _ (callAny (.type "set") _) _ _ _ from wpAny_pure ⟨Code.quiet_builtin _ (by decide +kernel), codeAny_builtin PySem.F.entry_type_call ?_⟩))
  rw [Around.under_plain (weight_type_call_type "set" [.ref l] []) rfl]
  have ⟨h1, h2⟩ := And.intro PySem.F.called_set.notType PySem.F.called_set.canCreate
  have hct := PySem.F.typeCall_set_1 (.ref l)
  repeat (any_goals (first | assumption | wp_step))

  refine codeAny_mono (code_set_new_1 (.ref l) (E := E) (Q₁ := fun obj s1 => ∃ led : Bool, obj = .ref s.heap.objs.size ∧ s1 = { s with heap := s.heap.push { cls := .type "set", dict := none, data := .set #[] 0 (.fresh 0 0 led) } }) fun led => ⟨led, rfl, rfl⟩) fun r s1 hr => ?_
  match r, hr with
  | .error e, hr => exact hr
  | .ok (.next), hr => exact hr.elim
  | .ok (.brk), hr => exact hr.elim
  | .ok (.cont), hr => exact hr.elim
  | .ok (.ret obj), hr =>
    obtain ⟨led, rfl, rfl⟩ := hr
    have hS : (s.heap.push { cls := .type "set", dict := none, data := .set #[] 0 (.fresh 0 0 led) }).get? s.heap.objs.size = some { cls := .type "set", dict := none, data := .set #[] 0 (.fresh 0 0 led) } := Heap.get?_push_size _ rfl
    have hT : Shared.TypeIs { s with heap := s.heap.push { cls := .type "set", dict := none, data := .set #[] 0 (.fresh 0 0 led) } } (.ref s.heap.objs.size) "set" := ⟨_, hS, rfl⟩
    have ⟨hli, hbi⟩ := And.intro PySem.F.called_set.init.lookup (PySem.F.called_set.init.bind (.ref s.heap.objs.size))
    repeat (any_goals (first | assumption | wp_step))

    refine codeAny_mono (codeAny_call_builtin (R := wants (fun r s2 => r = .none ∧ ∃ h' tk, s2 = { s with heap := h', toks := tk } ∧ Has prog w h' s.heap.objs.size xs ∧ (∀ b o, b < s.heap.objs.size → s.heap.get? b = some o → h'.get? b = some o)) E)
      PySem.F.called_set.init.plain PySem.F.entry_set_init (check_set_init_1 hT ?_)) fun r2 s2 hr2 => ?_
    · have hsls := src.set
      have hslf := src.froz
      have hne := src.dict
      have ho1 : (s.heap.push { cls := .type "set", dict := none, data := .set #[] 0 (.fresh 0 0 led) }).get? l = some ob := Heap.get?_push_of_some _ hol
      have hlS : l < s.heap.objs.size := Heap.lt_size hol
      have hcl := src.cls
      have it := src.iter
      have wk := src.walk
      have ini := src.init _ ho1
      clear src
      obtain ⟨ocls, odict, odata, oslots⟩ := ob
      simp only at hcl
      subst hcl
      unfold Builtin.«set.__init__» noKeywords Builtin.Frozenset.updateFrom
      generalize hPI : pyIter = PI
      wp_walk
      subst hPI

      refine it _ _ _ _ ho1 (wpAny_bind (wpAny_runValue ?_))
      have hh3 : A.in1.in1.in1.handled = none := by simp [hh]
      have hz : xs.length = items.size := by rw [← StrsAre.len_eq hi, Array.length_toList]
      refine loop ((wk _ _ hh3 (by rw [Heap.size_push]; exact Nat.ne_of_lt (Nat.lt_succ_of_lt hlS))).toS) s.heap.objs.size (by
          rw [Heap.size_push]
          simp only [List.mem_cons, List.mem_singleton, List.not_mem_nil, or_false, not_or]
          exact ⟨Nat.ne_of_lt (Nat.lt_succ_self _), Nat.ne_of_gt hlS⟩) xs hz (by omega) (fun i v hv => SS.strs_at hi i v (by rw [Array.getElem?_toList]; exact hv)) (items.size - 0) 0 _ (by omega) (Nat.zero_le _) ini ?hS0 ?hR
      case hS0 =>
        exact PyProof.Rows.SetOf_congr ((PyProof.Rows.setObjOf_fresh (knd := PySem.strKind prog w) led).setOf (Heap.get?_push_of_some _ hS) (by unfold scanBound; omega)) (fun _ => rfl) rfl
      case hR =>
        intro s' hm hS'
        obtain ⟨h', g', d', tk', os'⟩ := s'
        obtain rfl : g' = s.gens := hm.gens
        obtain rfl : d' = s.drawn := hm.drawn
        obtain rfl : os' = s.os := hm.os
        refine wpAny_pure (show wpAny _ _ (ret Value.none) _ _ _ from wpAny_pure ⟨rfl, h', tk', rfl, hS', fun b o hb e => ?_⟩)
        refine hm.heap b o ?_ (Heap.get?_push_of_some _ (Heap.get?_push_of_some _ e))
        rw [Heap.size_push]
        simp only [List.mem_cons, List.mem_singleton, List.not_mem_nil, or_false, not_or]
        exact ⟨Nat.ne_of_lt hb, Nat.ne_of_lt (Nat.lt_succ_of_lt hb)⟩
    · match r2, hr2 with
      | .error e, hr2 => exact hr2
      | .ok (.next), hr2 => exact hr2.elim
      | .ok (.brk), hr2 => exact hr2.elim
      | .ok (.cont), hr2 => exact hr2.elim
      | .ok (.ret r), hr2 =>
        obtain ⟨rfl, h', tk, rfl, hS', hk'⟩ := hr2
        repeat (any_goals (first | assumption | wp_step))
        exact hq _ _ hS' hk'
end
end RW.SetTx
set_option maxHeartbeats 4000000
namespace RW.SetTx
open PySem PySem.Spec PyProof.Rows
section
variable {prog : Program} {w : World} {A : Around}
theorem src_list {l : Addr} {items : Array Value} {od : Option Addr} {nl : Nat} {osl : Array (Option Value)} : Src prog w "list" l ⟨.type "list", od, .seq items nl, osl⟩ items (fun _ => { cls := .type "list_iterator", data := .fields #[.ref l, .int 0 0] }) (fun I i h => h.IsListIter I l i ∧ h.IsList l items) where
  cls := rfl
  set := PySem.F.sub_list_set
  froz := PySem.F.sub_list_frozenset
  dict := by decide
  iter := fun A E s Q ho hq => wpAny_pyIter_list ⟨_, ho, rfl, nl, rfl⟩ hq
  walk := fun A h hh hne => Walks.list hh _ l hne items
  init := fun h ho => ⟨⟨_, Heap.get?_push_size _ rfl, rfl, rfl⟩, ⟨_, Heap.get?_push_of_some _ ho, rfl, nl, rfl⟩⟩
theorem src_tuple {l : Addr} {items : Array Value} {od : Option Addr} {nl : Nat} {osl : Array (Option Value)} : Src prog w "tuple" l ⟨.type "tuple", od, .seq items nl, osl⟩ items (fun _ => { cls := .type "tuple_iterator", data := .fields #[.ref l, .int 0 0] }) (fun I i h => h.IsTupleIter I l i ∧ h.IsTuple l items) where
  cls := rfl
  set := PySem.F.sub_tuple_set
  froz := PySem.F.sub_tuple_frozenset
  dict := by decide
  iter := fun A E s Q ho hq => wpAny_pyIter_tuple ⟨_, ho, rfl, nl, rfl⟩ hq
  walk := fun A h hh hne => Walks.tuple hh _ l hne items
  init := fun h ho => ⟨⟨_, Heap.get?_push_size _ rfl, rfl, rfl⟩, ⟨_, Heap.get?_push_of_some _ ho, rfl, nl, rfl⟩⟩
end
end RW.SetTx
namespace RW
open PySem L2
section
variable {g : G} {X : Cx} {F H : Hp}
/-- len(set(xs)), xs a list or a tuple of texts -/
theorem pe_lenSetTx {a : Expr} {ta : TE} {p p2 q pos : Pos} (hc : X.calm = true) (hg : Gl X "len") (hm : X.mg "len" = none) (hg2 : Gl X "set") (hm2 : X.mg "set" = none) (ha : PE X a ta) (na : starEach [a] X.env = (false, eval a X.env) :: starEach [] X.env) :
    PE X (.Call (.Name "len" p) [.Call (.Name "set" p2) [a] [] q] [] pos) (fun σ H Q => ta σ H fun x H1 => ∃ l, ∃ xs : List Str, x = .ref l ∧ (SqL X.K H1 l (xs.map V.str) ∨ SqT X.K H1 l (xs.map V.str)) ∧ xs.length < 4000 ∧ Q (.int (SetTx.ddS xs).length) H1) := ⟨fun pins s σ H Q I h => by
  refine PyProof.Rows.Call_ (ld_blt I hg hm boot_len (PyProof.Rows.callWith_builtin1 (PyProof.Rows.args_cons (PyProof.Rows.Call_ (ld_blt I hg2 hm2 PyProof.Rows.boot_set ?_)) rfl) rfl rfl))
  refine PyProof.Rows.callWith_type1 (PyProof.Rows.args_cons (thn (ha.run pins s σ H _ I h) fun v s1 ⟨x, H1, I1, r1, q1⟩ => PyProof.Rows.args_nil ?_) na) na rfl
  obtain ⟨l, xs, rfl, hq, few, q1⟩ := q1
  cases r1
  have fin : ∀ (h' : Heap) (tk : Nat), SetTx.Has X.prog X.w h' s1.heap.objs.size xs → (∀ b o, b < s1.heap.objs.size → s1.heap.get? b = some o → h'.get? b = some o) →
      wpAny (model X.prog X.w) X.A (spliced (backTo pos (starEach [] X.env))) (fun vs s2 => wpAny (model X.prog X.w) X.A (call (.builtin "len") (Value.ref s1.heap.objs.size :: vs)) (EP X pins σ Q) X.xe s2) X.xe { s1 with heap := h', toks := tk } := fun h' tk hS hk => by
    obtain ⟨o, es, ep, t, ho, hex, hd, _, _, _, hf, hn⟩ := hS
    have I2 : Inv X pins σ H1 { s1 with heap := h', toks := tk } := I1.kept fun b o e => hk b o (Heap.lt_size e) e
    have hle := SetTx.ddS_len xs
    exact PyProof.Rows.args_nil (call_len_set ho hex hd hf (by rw [hn]; omega) ⟨.int _, H1, I2.tok _, ⟨_, by rw [hn]⟩, q1⟩)
  rcases hq with hq | hq
  · obtain ⟨its, r, pl, hz⟩ := I1.list hq
    obtain ⟨⟨oc, od, dt, sl⟩, ho, h1, n, h2⟩ := pl.isList
    simp only at h1 h2
    subst h1 h2
    exact SetTx.call_set SetTx.src_list ho (I1.ok.hd hc) (by simpa using strsAre_of r) few fin
  · obtain ⟨its, r, pl, hz⟩ := I1.tuple hq
    obtain ⟨⟨oc, od, dt, sl⟩, ho, h1, n, h2⟩ := pl
    simp only at h1 h2
    subst h1 h2
    exact SetTx.call_set SetTx.src_tuple ho (I1.ok.hd hc) (by simpa using strsAre_of r) few fin⟩
def lenSetD : D → Option Vr
  | .lst ds => (strsOf ds).bind fun xs => if xs.length < 4000 then some (.sh (.int (SetTx.ddS xs).length)) else none
  | .tup ds => (strsOf ds).bind fun xs => if xs.length < 4000 then some (.sh (.int (SetTx.ddS xs).length)) else none
  | _ => none
theorem d_lenSet {a : Expr} {ma : M g.R.S Vr} {p p2 q pos : Pos} {k : Nat} (o : XO g k X) (hg : Gl X "len") (hm : X.mg "len" = none) (hg2 : Gl X "set") (hm2 : X.mg "set" = none) (ha : DE g X a ma) (na : starEach [a] X.env = (false, eval a X.env) :: starEach [] X.env := by rfl) :
    DE g X (.Call (.Name "len" p) [.Call (.Name "set" p2) [a] [] q] [] pos) (mOp1 lenSetD ma) := by
  refine PE.imp (pe_lenSetTx o.calm hg hm hg2 hm2 ha na) fun σ H Q h => ?_
  refine tOp1_of (r := fun x H1 Q => ∃ l, ∃ xs : List Str, x = .ref l ∧ (SqL X.K H1 l (xs.map V.str) ∨ SqT X.K H1 l (xs.map V.str)) ∧ xs.length < 4000 ∧ Q (.int (SetTx.ddS xs).length) H1) ⟨fun x z e i => ?_, fun F H x dx z Q s p e n => ?_⟩ h
  · unfold lenSetD at e
    split at e
    · obtain ⟨xs, _, e⟩ := Option.bind_eq_some_iff.mp e
      split at e
      · cases e; exact fun z => nomatch z
      · cases e
    · obtain ⟨xs, _, e⟩ := Option.bind_eq_some_iff.mp e
      split at e
      · cases e; exact fun z => nomatch z
      · cases e
    · cases e
  · unfold lenSetD at e
    split at e
    · obtain ⟨xs, h1, e⟩ := Option.bind_eq_some_iff.mp e
      split at e
      · cases e
        obtain ⟨a, vs, rfl, e1, r1⟩ := p.lst s
        rw [strsOf_eq h1] at r1
        rw [rep_strs r1] at e1
        exact ⟨a, xs, rfl, .inl (SqL.of e1), by assumption, n F _ H (Ext.refl s) (.int _)⟩
      · cases e
    · obtain ⟨xs, h1, e⟩ := Option.bind_eq_some_iff.mp e
      split at e
      · cases e
        obtain ⟨a, vs, rfl, e1, r1⟩ := p.tup s
        rw [strsOf_eq h1] at r1
        rw [rep_strs r1] at e1
        exact ⟨a, xs, rfl, .inr (by rw [o.K]; exact e1), by assumption, n F _ H (Ext.refl s) (.int _)⟩
      · cases e
    · cases e
/-! ### min(d), d a dict whose keys are texts -/
def minS (ks : List Str) : Str := ks.getD (argBest (fun i j => decide ((ks.getD i Str.empty).cps.toList < (ks.getD j Str.empty).cps.toList)) (ks.length - 1)) Str.empty
theorem argBest_le (bt : Nat → Nat → Bool) : ∀ n, argBest bt n ≤ n
  | 0 => Nat.le_refl _
  | n + 1 => by
    unfold argBest
    split
    · exact Nat.le_refl _
    · exact Nat.le_succ_of_le (argBest_le bt n)
theorem minS_mem {ks : List Str} (h : ks ≠ []) : minS ks ∈ ks := by
  unfold minS
  have h1 := argBest_le (fun i j => decide ((ks.getD i Str.empty).cps.toList < (ks.getD j Str.empty).cps.toList)) (ks.length - 1)
  have h2 : 0 < ks.length := List.length_pos_iff.mpr h
  have hb : argBest (fun i j => decide ((ks.getD i Str.empty).cps.toList < (ks.getD j Str.empty).cps.toList)) (ks.length - 1) < ks.length := by omega
  rw [List.getD_eq_getElem?_getD, List.getElem?_eq_getElem hb]
  exact List.getElem_mem hb
theorem call_minTx (hc : X.calm = true) : CallR X (.builtin "min") (fun vs H Q => ∃ (a : Addr) (kvs : List (Key × V)) (ks : List Str), vs = [V.ref a] ∧ Rd H a (.dK kvs) ∧ kvs.map (·.1) = ks.map Sum.inr ∧ ks ≠ [] ∧ Q (.str (minS ks)) H) := by
  intro pins s σ H vs us Q I r h
  obtain ⟨a, kvs, ks, rfl, ha, hv, hne, q⟩ := h
  rw [Vals.ref1 r]
  obtain ⟨_, hsys, vs, rel, dof⟩ := dk_rd I.hok ha
  obtain ⟨ep, dat⟩ := dof.dictAt
  have hlt : a < s.heap.objs.size := dat.lt_size
  have hkeys : vs.map (·.1) = ks.map Sum.inr := (KV.keys rel).symm.trans hv
  have hlv : vs.length = ks.length := by simpa using congrArg List.length hkeys
  have hval : ∀ (i : Nat) (v : Value), (∃ k x, vs[i]? = some (k, x) ∧ (mixKind X.prog X.w).is k v = true) → ∃ t, v = Value.str (ks.getD i Str.empty) t := fun i v ⟨k, x, hk, hkey⟩ => by
    have e1 : (vs.map (·.1))[i]? = some k := by rw [List.getElem?_map, hk]; rfl
    rw [hkeys, List.getElem?_map] at e1
    obtain ⟨j, hj, rfl⟩ := Option.map_eq_some_iff.mp e1
    obtain ⟨t, e3⟩ := Value.isStrOf_shape (x := j) (v := v) hkey
    exact ⟨t, by rw [e3, List.getD_eq_getElem?_getD, hj]; rfl⟩
  refine call_min_walk (wpAny_pyIter_dict (knd := mixKind X.prog X.w) hsys dat ⟨_, _, _, _, _, _, fun i j => decide ((ks.getD i Str.empty).cps.toList < (ks.getD j Str.empty).cps.toList), rfl,
    Walks.dictKeys (knd := mixKind X.prog X.w) (A := X.A.in1) (I.ok.hd hc) s.heap.objs.size a (Nat.ne_of_lt hlt) vs ep, ⟨⟨_, Heap.get?_push_size _ rfl, rfl, rfl⟩, dat.keep fun b u e => Heap.get?_push_of_some _ e⟩, fun b hb => ?_, by rw [hlv]; exact List.length_pos_iff.mpr hne, ?_, fun v h' tk hP hk => ?_⟩)
  · show b < (s.heap.push _).objs.size
    rw [Heap.size_push]
    rcases List.mem_cons.mp hb with e | e
    · rw [e]; exact Nat.lt_succ_self _
    · rw [List.mem_singleton.mp e]; exact Nat.lt_succ_of_lt hlt
  · intro i j vi vj s' Q' E' hi hj hQ
    obtain ⟨t, rfl⟩ := hval i vi hi
    obtain ⟨t', rfl⟩ := hval j vj hj
    exact PyProof.Rows.lt_str hQ
  · obtain ⟨t, rfl⟩ := hval _ v hP
    refine ⟨.str _, H, I.kept (t' := tk) fun b u e => hk b u (fun hmem => ?_) (Heap.get?_push_of_some _ e), ⟨t, rfl⟩, ?_⟩
    · have e2 := Heap.lt_size e
      rw [List.mem_singleton.mp hmem] at e2
      exact absurd e2 (Nat.lt_irrefl _)
    · rw [hlv]; exact q
def min1 : D → Option Vr
  | .dct false es => (keysStr es).bind fun ks => if ks = [] then none else some (.sh (.str (minS ks)))
  | _ => none
/-! ### tuple(d) -/
theorem code_tupD {A : Around} {E : Value → Shared → Prop} {s : Shared} {prog : Program} {w : World} {kvs : List (Key × Value)} {ep : Nat} {d : Addr} {Q1 : Value → Shared → Prop} (hh : A.handled = none) (lo : (d == sysModules) = false) (hat : s.heap.DictAt (mixKind prog w) d kvs ep) (hn : kvs.length ≤ sizeLine)
    (h : ∀ (h' : Heap) (tk : Nat) (acc : Array Value), (∀ b o, s.heap.get? b = some o → h'.get? b = some o) → ItemsOf (fun i v => ∃ k x, kvs[i]? = some (k, x) ∧ (mixKind prog w).is k v = true) acc kvs.length → Q1 (.ref h'.objs.size) { s with heap := h'.push { cls := .type "tuple", data := .seq acc }, toks := tk }) :
    codeAny (model prog w) A (.call (.builtin "tuple.__new__") ⟨[.type "tuple", .ref d], []⟩) (wants Q1 E) s := by
  refine codeAny_of_tree (show wpAny _ A.in1 (do checkBuiltinCall "tuple.__new__" ⟨[.type "tuple", .ref d], []⟩; again (.builtin "tuple.__new__" ⟨[.type "tuple", .ref d], []⟩)) _ _ s from ?_)
  refine wpAny_bind (wpAny_of_eq (F.newCall_tuple_1 _) (wpAny_pure ⟨plainId_quiet F.plain_tuple_new _, codeAny_builtin F.entry_tuple_new ?_⟩))
  rw [Around.under_plainId F.plain_tuple_new _]
  have ⟨hsub, hinit⟩ := And.intro sub_tuple_self init_tuple_lookup
  have ⟨hmh, hTI⟩ := And.intro madeHere_tuple (hat.dictOf.typeIs (s := s))
  have hh1 : A.in1.handled = none := hh
  wp_walk using wpAny_typeOf hTI, PySem.W.kdu_collect (A := A.in1) (PySem.W.kdl_dict (knd := mixKind prog w) (kvs := kvs) (ep := ep) lo) hh1 hat hn
  intro h' tk acc hk hacc
  refine (show wpAny _ _ (Builtin.Tuple.tupleExact acc.toList.toArray >>= fun v => ret v) _ _ _ from ?_)
  unfold Builtin.Tuple.tupleExact
  refine wpAny_bind (wpAny_newObj_type (wpAny_pure ?_) (by show acc.toList.toArray.size ≤ sizeLine; rw [List.size_toArray, Array.length_toList, hacc.1]; exact hn))
  rw [Array.toArray_toList]
  exact h h' tk acc hk hacc
theorem call_tupD (hc : X.calm = true) : CallR X (.type "tuple") (fun xs H Q => ∃ (a : Addr) (kvs : List (Key × V)) (ks : List Str), xs = [V.ref a] ∧ Rd H a (.dK kvs) ∧ kvs.map (·.1) = ks.map Sum.inr ∧ ∀ l, H l = none → Q (.ref l) (upd H l (.tup (ks.map V.str)))) := by
  intro pins s σ H xs us Q I r h
  obtain ⟨a, kvs, ks, rfl, ha, hv, q⟩ := h
  rw [Vals.ref1 r]
  obtain ⟨hz, hsys, vs, rel, dof⟩ := dk_rd I.hok ha
  obtain ⟨ep, dat⟩ := dof.dictAt
  have hkeys : vs.map (·.1) = ks.map Sum.inr := (KV.keys rel).symm.trans hv
  have hlv : vs.length = ks.length := by simpa using congrArg List.length hkeys
  have hlk : kvs.length = ks.length := by simpa using congrArg List.length hv
  refine callType_codes (Q₁ := fun obj s1 => s1.TypeIs obj "tuple" ∧ EP X pins σ Q obj s1) F.called_tuple (F.typeCall_tuple_1 _) F.entry_object_init (code_tupD (A := X.A.in1) (I.ok.hd hc) hsys dat (by rw [hlv, ← hlk]; exact hz) fun h' tk acc hk hacc => ⟨⟨_, Heap.get?_push_size _ rfl, rfl⟩, ?_⟩) fun obj s1 h1 =>
    ⟨h1.1, F.args_object_init_2 obj _, object_init_meets F.called_tuple.init.lookup F.called_tuple.made (by decide) X.prog X.w X.A.in1 _ s1 ⟨h1.1, rfl, h1.2⟩⟩
  have hal : acc.toList.length = ks.length := by rw [Array.length_toList, hacc.1, hlv]
  have hvals : Vals (ks.map V.str) acc.toList := by
    have : ∀ (ys : List Str) (us : List Value), us.length = ys.length → (∀ (j : Nat) (v : Value), us[j]? = some v → ∃ y t, ys[j]? = some y ∧ v = Value.str y t) → Vals (ys.map V.str) us := by
      intro ys
      induction ys with
      | nil => intro us hl _; have : us = [] := List.length_eq_zero_iff.mp hl; subst this; exact .nil
      | cons y ys ih =>
        intro us hl hj
        match us, hl with
        | u :: us, hl =>
          obtain ⟨y', t, e1, e2⟩ := hj 0 u rfl
          cases e1
          exact .cons ⟨t, e2⟩ (ih us (by simpa using hl) fun j v e => by simpa using hj (j + 1) v (by simpa using e))
    refine this ks acc.toList hal fun j v e => ?_
    obtain ⟨k, x, e1, e2⟩ := hacc.2 j v (by rw [← Array.getElem?_toList]; exact e)
    have e3 : (vs.map (·.1))[j]? = some k := by rw [List.getElem?_map, e1]; rfl
    rw [hkeys, List.getElem?_map] at e3
    obtain ⟨y, hy, rfl⟩ := Option.map_eq_some_iff.mp e3
    obtain ⟨t, ev⟩ := Value.isStrOf_shape (x := y) (v := v) e2
    exact ⟨y, t, hy, ev⟩
  have I1 : Inv X pins σ H { s with heap := h', toks := tk } := I.kept hk
  refine ⟨.ref h'.objs.size, upd H h'.objs.size (.tup (ks.map V.str)), I1.laid (t' := tk) (fun _ _ e => Heap.get?_push_of_some _ e) (Nat.le_refl _) ⟨by rw [List.length_map, ← hlk]; exact hz, acc.toList, ?_⟩, rfl, q _ (I1.hok.fresh (Nat.le_refl _))⟩
  exact ⟨hvals, _, Heap.get?_push_size _ rfl, rfl, 0, by rw [Array.toArray_toList]⟩
def tup1 : D → Option Vr
  | .lst ds => some (.sh (.tup ds))
  | .tup ds => some (.sh (.tup ds))
  | .dct false es => (keysStr es).map fun ks => .sh (.tup (ks.map .str))
  | _ => none
theorem d_tup1 {a : Expr} {ma : M g.R.S Vr} {p pos : Pos} {k : Nat} (o : XO g k X) (hg : Gl X "tuple") (hm : X.mg "tuple" = none) (ha : DE g X a ma) (he : starEach [a] X.env = (false, eval a X.env) :: starEach [] X.env := by rfl) : DE g X (.Call (.Name "tuple" p) [a] [] pos) (mOp1 tup1 ma) := by
  refine d_t1 (CallR.or call_tuple_of (call_tupD o.calm)) ⟨fun x z e i => ?_, fun F H x dx z Q s p e n => ?_⟩ (by decide +kernel) hg hm ha (by decide) (by decide) he rfl
  · unfold tup1 at e
    split at e
    · cases e; exact fun z => nomatch z
    · cases e; exact fun z => nomatch z
    · obtain ⟨ks, _, rfl⟩ := Option.map_eq_some_iff.mp e
      exact fun z => nomatch z
    · cases e
  · unfold tup1 at e
    split at e
    · cases e
      obtain ⟨a, xs, rfl, e1, r1⟩ := p.lst s
      exact .inl ⟨a, xs, rfl, .inl ⟨SqL.of e1, fun l hl => n.newT s r1 l hl⟩⟩
    · cases e
      obtain ⟨a, xs, rfl, e1, r1⟩ := p.tup s
      refine .inl ⟨a, xs, rfl, .inr ⟨by rw [o.K]; exact e1, ?_⟩⟩
      rcases p with p | ⟨_, _, _, _, p⟩
      · exact n.q s p
      · cases p
    · obtain ⟨ks, h1, rfl⟩ := Option.map_eq_some_iff.mp e
      obtain ⟨a, kvs, rfl, e1, r1⟩ := p.dK s
      exact .inr ⟨a, kvs, ks, rfl, e1, keysStr_eq r1 h1, fun l hl => n.newT s (all_strs _) l hl⟩
    · cases e
end
end RW
set_option maxHeartbeats 4000000
namespace RW
open PySem L2
section
variable {g : G} {X : Cx} {F H : Hp}
/-! ### {k: v, ..} -/
def mPairs {R : Type} : List (M R Vr × M R Vr) → M R (List (Key × D))
  | [] => fun s => some ([], s)
  | (mk, mv) :: r => fun s => (mk s).bind fun p => (esc (soft p.1) p.2).bind fun z => (kOf z.1).bind fun key => (mv z.2).bind fun p2 => (esc (soft p2.1) p2.2).bind fun z2 => (mPairs r z2.2).map fun q => ((key, z2.1) :: q.1, q.2)
def mDisp {R : Type} (ms : List (M R Vr × M R Vr)) : M R Vr := fun s => (mPairs ms s).map fun q => (.tmp (.dct false (q.1.foldl (fun acc kv => putE acc (keyD kv.1) kv.2) [])), q.2)
def trsOf (g : G) (ms : List (M g.R.S Vr × M g.R.S Vr)) : List (TE × TE) := ms.map fun m => (tM g m.1, tM g m.2)
def DP (g : G) (X : Cx) (pos : Pos) (ks : List (Option Expr)) (vs : List Expr) (ms : List (M g.R.S Vr × M g.R.S Vr)) : Prop := PPs X pos ks vs (trsOf g ms)
theorem p_nil {pos : Pos} : DP g X pos [] [] [] := pps_nil
theorem p_cons {pos : Pos} {k v : Expr} {ks : List (Option Expr)} {vs : List Expr} {mk mv : M g.R.S Vr} {ms : List (M g.R.S Vr × M g.R.S Vr)} (hk : DE g X k mk) (hv : DE g X v mv) (hr : DP g X pos ks vs ms) : DP g X pos (some k :: ks) (v :: vs) ((mk, mv) :: ms) := pps_cons hk hv hr
theorem tPairs_of {σ : St} : ∀ {ms : List (M g.R.S Vr × M g.R.S Vr)} {F H : Hp} {s s' : S g.R.S} {ks : List (Key × D)} {Q : List (V × V) → Hp → Prop}, Sim g F s σ H → mPairs ms s = some (ks, s') →
    (∀ F' kvs H', Sim g F' s' σ H' → Keep g F s σ H F' s' σ H' → RepK g F' kvs (ks.map fun kv => (keyD kv.1, kv.2)) → kvs.length = ms.length → Q (kvs.map fun kv => (kV kv.1, kv.2)) H') → tPairs (trsOf g ms) σ H Q
  | [], F, H, s, s', ks, Q, I, e, k => by
    cases e
    exact k F [] H I Keep.refl .nil rfl
  | (mk, mv) :: r, F, H, s, s', ks, Q, I, e, k => by
    unfold mPairs at e
    obtain ⟨⟨r1, s1⟩, e1, e⟩ := Option.bind_eq_some_iff.mp e
    obtain ⟨⟨d2, s2⟩, e2, e⟩ := Option.bind_eq_some_iff.mp e
    obtain ⟨key, ek, e⟩ := Option.bind_eq_some_iff.mp e
    obtain ⟨⟨r3, s3⟩, e3, e⟩ := Option.bind_eq_some_iff.mp e
    obtain ⟨⟨d4, s4⟩, e4, e⟩ := Option.bind_eq_some_iff.mp e
    obtain ⟨⟨ks', s5⟩, e5, e⟩ := Option.map_eq_some_iff.mp e
    cases e
    refine tM_esc I e1 e2 fun F1 y H1 I1 K1 w1 => tM_esc I1 e3 e4 fun F2 z H2 I2 K2 w2 => ?_
    refine tPairs_of I2 e5 fun F3 kvs H3 I3 K3 w3 hl => ?_
    have hy : y = kV key := by
      have hd := kOf_some ek
      subst hd
      cases key with
      | inl i => exact Pk.int (H := H1) (.inl w1)
      | inr x => exact Pk.str (H := H1) (.inl w1)
    subst hy
    exact k F3 ((key, z) :: kvs) H3 I3 ((K1.trans K2 I2).trans K3 I3) (.cons (w2.mono K3.grow) w3) (by simp [hl])
theorem RepK.merge {F : Hp} : ∀ {kvs : List (Key × V)} {ks : List (Key × D)} {av : List (Key × V)} {ad : List (D × D)}, RepK g F kvs (ks.map fun kv => (keyD kv.1, kv.2)) → RepK g F av ad → RepK g F (mergeK av kvs) (ks.foldl (fun acc kv => putE acc (keyD kv.1) kv.2) ad)
  | kvs, [], av, ad, h, q => by cases h; exact q
  | kvs, (k, d) :: ks, av, ad, h, q => by
    have h' : RepK g F kvs ((keyD k, d) :: ks.map fun kv => (keyD kv.1, kv.2)) := h
    generalize hz : ks.map (fun kv => (keyD kv.1, kv.2)) = rest at h'
    generalize hk : keyD k = kd at h'
    cases h' with
    | cons hv ht =>
      rename_i k' _ _
      have e : k' = k := by
        cases k <;> cases k' <;> cases hk <;> rfl
      subst e
      subst hz
      exact RepK.merge (ks := ks) (av := putK av k' _) ht (q.put k' hv)
theorem d_disp {pos : Pos} {ks : List (Option Expr)} {vs : List Expr} {ms : List (M g.R.S Vr × M g.R.S Vr)} {k : Nat} (o : XO g k X) (h : DP g X pos ks vs ms) (hall : ks.all (·.isSome) = true := by rfl) (hl : ks.length = vs.length := by rfl) (h0 : ks ≠ [] := by exact fun z => nomatch z) (h15 : ks.length ≤ 15 := by decide) (hm : ms.length ≤ 15 := by exact Nat.le_of_ble_eq_true rfl) :
    DE g X (.Dict ks vs pos) (mDisp ms) := by
  refine PE.imp (pe_disp h hall hl h0 h15) fun σ H Q ⟨F, s, res, s', I, e, kk⟩ p hp => ?_
  unfold mDisp at e
  obtain ⟨⟨kd, s1⟩, e1, e⟩ := Option.map_eq_some_iff.mp e
  cases e
  have x0 : Ext F H F (upd H p (.dK [])) := Ext.tmp I.sub hp
  have ft : ¬ g.R.foot p := I.nofoot hp
  have no0 : ¬ Own σ s.e p := fun z => by
    obtain ⟨o, e, _⟩ := (I.own_at z).2.2
    rw [hp] at e; cases e
  have m0 : MkD g F s.e σ (upd H p (.dK [])) p [] := ⟨upd_same, I.sub.free hp, no0⟩
  refine tPairs_of (I.ext x0) e1 fun F1 kvs H1 I1 K1 w1 hlen => ?_
  have m1 := m0.keep ft K1
  refine ⟨m1.at_, kvs, rfl, by rw [hlen]; exact hm, ?_⟩
  have K01 := (Keep.ext x0).trans K1 I1
  refine kk F1 (.ref p) _ (I1.grow m1.nf m1.no ft) (K01.grow' hp) ⟨p, _, rfl, hp, m1.nf, ft, m1.no, upd_same, .dK (w1.merge .nil)⟩
/-! ### C(..): a new object -/
abbrev Im (R : Type) := List D → R → Option (List (Str × D) × R)
structure LeftX (g : G) (x : Addr) (F H F' H' : Hp) (r' : g.R.S) : Prop where
  sub : Sub F' H'
  at_ : g.R.At r' H'
  foot : ∀ a, g.R.foot a → F' a = none
  le : Le F F'
  heap : ∀ a o, H a = some o → a ≠ x → ¬ g.R.foot a → H' a = some o
  nof : ∀ a o, H a = some o → NT o → F a = none → a ≠ x → F' a = none
  there : ∀ a o, H a = some o → ∃ o', H' a = some o'
def spI (g : G) (c n : Nat) (mi : Im g.R.S) : Sp := fun vs H Q _ => ∃ x dx vs' F r ds fs r', vs = .ref x :: vs' ∧ H x = some (.ins (g.cls c) dx []) ∧ F x = none ∧ ¬ g.R.foot x ∧ Sub F H ∧ g.R.At r H ∧ (∀ a, g.R.foot a → F a = none) ∧ RepAll g F vs' ds ∧ ds.length = n ∧ mi ds r = some (fs, r') ∧
  ∀ F' o H', LeftX g x F H F' H' r' → H' x = some o → RepO g F' o (.obj c fs) → F' x = none → Q .non H'
def fnIR {R : Type} (c : Nat) (p : Fl × S R) : Option (List (Str × D) × R) := match p.1, (p.2.e[0]? : Option (Option Cell)) with
  | .nx, some (some (Cell.mk (.obj c' fs) true)) => if c' = c then some (fs, p.2.r) else none
  | _, _ => none
def fnI {R : Type} (c nl : Nat) (ms : MS R) : Im R := fun ds r => (ms ⟨some ⟨.obj c [], true⟩ :: ent (nl - 1) ds, r⟩).bind (fnIR c)
theorem spI_len {c n : Nat} {mi : Im g.R.S} {vs : List V} {Q : VK} {E : XK} (h : spI g c n mi vs H Q E) : vs.length = n + 1 := by
  obtain ⟨x, dx, vs', F, r, ds, fs, r', rfl, _, _, _, _, _, _, rep, hl, _⟩ := h
  rw [List.length_cons, rep.length, hl]
theorem body_init {N : List Str} {vs : List V} {ms : MS g.R.S} {Q : VK} {c n : Nat} {E : XK} (hN : 0 < N.length) (h : spI g c n (fnI c N.length ms) vs H Q E) : ∃ x, tSx g x ms { nx := fun _ H' => Q .non H', rt := Q } (L2.start N vs) H := by
  obtain ⟨x, dx, vs', F, r, ds, fs, r', rfl, hx, hF, hft, sub, at_, ft, rep, hl, e, k⟩ := h
  have hlen := rep.length
  obtain ⟨⟨fl, s'⟩, e1, e2⟩ := Option.bind_eq_some_iff.mp e
  have est : L2.start N (.ref x :: vs') = some (.ref x) :: (vs'.map some ++ List.replicate (N.length - (vs'.length + 1)) none) := by
    unfold L2.start
    simp
  have own0 : ∀ a, Own (L2.start N (.ref x :: vs')) (some ⟨.obj c [], true⟩ :: ent (N.length - 1) ds) a → a = x := fun a ⟨i, ci, h1, h2, h3⟩ => by
    rw [est] at h3
    cases i with
    | zero => cases h3; rfl
    | succ i =>
      rw [(ent_get (by simpa using h1)).1] at h2; cases h2
  have I : Sim g F ⟨some ⟨.obj c [], true⟩ :: ent (N.length - 1) ds, r⟩ (L2.start N (.ref x :: vs')) H := by
    refine ⟨sub, at_, ft, ?_, fun i ci ei => ?_, fun i j ci cj a hne e1 e2 o1 o2 _ => ?_⟩
    · rw [est]
      unfold ent
      simp
      omega
    · rw [est]
      cases i with
      | zero =>
        cases ei
        exact ⟨.ref x, rfl, .inr ⟨rfl, x, _, rfl, hF, hft, hx, .ins .nil⟩⟩
      | succ i =>
        obtain ⟨h1, h2⟩ := ent_get (by simpa using ei)
        obtain ⟨v, e3, rv⟩ := rep.get h2
        refine ⟨v, ?_, .inl ⟨h1, rv⟩⟩
        have hi : i < vs'.length := (List.getElem?_eq_some_iff.mp e3).1
        rw [List.getElem?_cons_succ, List.getElem?_append_left (by simpa using hi), List.getElem?_map, e3]
        rfl
    · have hi : i = 0 := by
        cases i with
        | zero => rfl
        | succ i => rw [(ent_get (by simpa using e1)).1] at o1; cases o1
      have hj : j = 0 := by
        cases j with
        | zero => rfl
        | succ i => rw [(ent_get (by simpa using e2)).1] at o2; cases o2
      exact (hne (by rw [hi, hj])).elim
  refine ⟨x, F, _, s', I, by rw [est]; rfl, ?_, ?_⟩
  · unfold fnIR at e2
    split at e2
    · rename_i h1 h2
      have : fl = .nx := h1
      subst this
      exact e1
    · cases e2
  · intro F' σ' H' I' K' h0
    unfold fnIR at e2
    split at e2
    · rename_i h1 h2
      split at e2
      · rename_i hc
        subst hc
        cases e2
        obtain ⟨v, ev, cv⟩ := I'.cell 0 _ h2
        rw [h0] at ev; cases ev
        rcases cv with ⟨z, _⟩ | ⟨_, p, o, ep, b2, b3, b4, b5⟩
        · cases z
        · cases ep
          exact k F' o H' ⟨I'.sub, I'.at_, I'.foot, K'.grow, fun a o h ne nf => K'.heap a o h (fun z => ne (own0 a z)) nf, fun a o h nt q ne => K'.nof a o h nt q fun z => ne (own0 a z), K'.there⟩ b4 b5 b2
      · cases e2
    · cases e2
structure FuI (g : G) (P : Program) (w : World) (mg : Str → Option Value) (base : Heap) (k : Nat) (ps : List Str) (c : Nat) (mi : Im g.R.S) (f : Addr) : Prop where
  ex : ∃ fd n, ps.length = n + 1 ∧ FnG P w g.K mg base k f fd ps (spI g c n mi) ∧ Binds g.K fd ps []
theorem fui_of {P : Program} {w : World} {mg : Str → Option Value} {base : Heap} {k n c : Nat} {x qual : Str} {params : Arguments} {body : List Stmt} {scope : Scope} {dvs : List V} {kws : List (Str × V)} {N ps : List Str} {ms : MS g.R.S} {f : Addr} (sy : ∃ u, base.get? sysModules = some u) (F : ∃ fd, FunD g.K x qual params body scope dvs kws f fd) (S : FnScope N ps scope)
    (bi : ∀ fd, FunD g.K x qual params body scope dvs kws f fd → Binds g.K fd ps []) (hn : ps.length = n + 1) (hN : 0 < N.length)
    (hb : ∀ (cdv : Value) (A : Around) (outer : List Env) (s : Shared) (H : Hp), XO g k (cxOf CX0 P w g.K mg base N qual scope f cdv A outer s H E0).nox → DBx g (cxOf CX0 P w g.K mg base N qual scope f cdv A outer s H E0).nox body ms) :
    FuI g P w mg base (k + 1) ps c (fnI c N.length ms) f := by
  obtain ⟨fd, F⟩ := F
  refine ⟨fd, n, hn, FunD.okG F S (fun _ _ _ _ h => by rw [spI_len h, hn]) fun cdv A outer s H vs Q hr gd hsp => ?_, bi fd F⟩
  obtain ⟨x, hx⟩ := body_init hN hsp
  exact ⟨tSx g x ms, (hb cdv A outer s H ⟨rfl, hr, rfl, S.nd, deeper_guards gd, sy⟩ x).nox, hx⟩
def mMake {R : Type} (c : Nat) (mi : Im R) (ma : M R (List Vr)) : M R Vr := fun s => (ma s).bind fun p => (escAll p.1 p.2).bind fun z => (mi z.1 z.2.r).map fun q => (.tmp (.obj c q.1), { z.2 with r := q.2 })
theorem d_make {k j n : Nat} {f : Addr} {ps : List Str} {mi : Im g.R.S} {x : Str} {p pos : Pos} {e : Expr} {es : List Expr} {ma : M g.R.S (List Vr)} (c : Nat) (F : FuI g X.prog X.w X.mg X.base j ps c mi f) (o : XO g k X) (mk : Mk X.K (g.cls c) f) (hm : X.mg x = some (.ref (g.cls c)))
    (ha : DA g X n (e :: es) ma) (hg : Gl X x := by rfl) (hj : j + 1 ≤ k := by decide) (hn : ps.length = n + 1 := by rfl) (hdb : (x == ("__debug__" : Str)) = false := by decide) (he : starEach (e :: es) X.env = (false, eval e X.env) :: starEach es X.env := by rfl) (hpl : (backTo pos (starEach es X.env)).any (·.1) = false := by rfl) :
    DE g X (.Call (.Name x p) (e :: es) [] pos) (mMake c mi ma) := by
  obtain ⟨fd, n', h1, h2, h3⟩ := F
  obtain rfl : n' = n := by omega
  have K := o.K
  rw [← K] at h2 h3
  refine PE.imp (pg_make mk h2 (o.rm.mono hj) o.gd hg hm h3 .nil ha hdb he hpl) fun σ H Q ⟨F, s, res, s', I, e, kk⟩ => ?_
  unfold mMake at e
  obtain ⟨p, e1, e⟩ := Option.bind_eq_some_iff.mp e
  obtain ⟨z, e2, e⟩ := Option.bind_eq_some_iff.mp e
  obtain ⟨q, e3, e⟩ := Option.map_eq_some_iff.mp e
  cases e
  refine ⟨F, s, p.1, p.2, I, e1, fun F1 vs H1 I1 K1 w1 hl x dx hx hdx hne => ?_⟩
  obtain ⟨F2, I2, K2, r2⟩ := escAll_ok I1 w1 e2
  have xa : Ext F2 H1 F2 (upd H1 dx (.own x)) := Ext.tmp I2.sub hdx
  have hx' : upd H1 dx (.own x) x = none := by rw [upd_ne (Ne.symm hne)]; exact hx
  have xb : Ext F2 (upd H1 dx (.own x)) F2 (upd (upd H1 dx (.own x)) x (.ins (g.cls c) dx [])) := Ext.tmp xa.sub hx'
  have xc := xa.trans xb
  have I3 := I2.ext xc
  rw [List.append_nil]
  refine ⟨x, dx, vs, F2, z.2.r, z.1, q.1, q.2, rfl, upd_same, I2.sub.free hx, I2.nofoot hx, I3.sub, I3.at_, I3.foot, r2, by rw [← r2.length, hl], e3, fun F' o' H' l h4 h5 h6 => ⟨rfl, ?_⟩⟩
  have nx : ∀ a u, H1 a = some u → a ≠ x := fun a u h => ne_of_none h hx
  have l1 : Left g F2 H1 F' H' q.2 := ⟨l.sub, l.at_, l.foot, l.le, fun a u h nf => l.heap a u (xc.heap a u h) (nx a u h) nf, fun a u h nt w => l.nof a u (xc.heap a u h) nt w (nx a u h), fun a u h => l.there a u (xc.heap a u h)⟩
  obtain ⟨I4, K4⟩ := I2.left l1
  refine kk F' (.ref x) H' I4 ((K1.trans K2 I2).trans K4 I4) ⟨x, o', rfl, ?_, h6, I2.nofoot hx, fun y => ?_, h4, h5⟩
  · cases u : H x with
    | none => rfl
    | some w => obtain ⟨o'', e'⟩ := K1.there x w u; rw [hx] at e'; cases e'
  · obtain ⟨o'', e', _⟩ := (I2.own_at (s := z.2) y).2.2
    rw [hx] at e'; cases e'
end
end RW
namespace RW
open PySem L2 PyProof.Rows
/-! ### repr -/
mutual
def toPy : D → Option PyData
  | .non => some .none
  | .bl b => some (.bool b)
  | .int i => some (.int i)
  | .str x => some (.str x)
  | .lst ds => (toPyAll ds).map .list
  | .tup ds => (toPyAll ds).map .tuple
  | .dct false es => (toPyKv es).map .dict
  | .dct true _ => none
  | .obj _ _ => none
  | .res => none
  | .scr _ => none
def toPyAll : List D → Option (List PyData)
  | [] => some []
  | d :: ds => (toPy d).bind fun p => (toPyAll ds).map fun q => p :: q
def toPyKv : List (D × D) → Option (List (PyData × PyData))
  | [] => some []
  | e :: es => (toPy e.1).bind fun k => (toPy e.2).bind fun v => (toPyKv es).map fun q => (k, v) :: q
end
def fitsPy (d : PyData) : Bool := d.showable && (d.leavesShort 13 && (decide (d.weight ≤ 2 ^ 20) && decide (d.depth ≤ 40)))
def reprS (d : D) : Option Str := (toPy d).bind fun p => if fitsPy p then some p.shown else none
def reprD (d : D) : Option Vr := (reprS d).map fun x => .sh (.str x)
section
variable {g : G} {X : Cx} {F H : Hp} {pins : List (Addr × Obj)} {σ : L2.St} {s : Shared}
theorem tracked_ne (I : L2.Inv X pins σ H s) (sy : ∃ u, X.base.get? sysModules = some u) {a : Addr} {o : HO} (h : H a = some o) : a ≠ sysModules := fun z => by
  obtain ⟨u, e⟩ := sy
  rw [z, (I.bs _ _ e).2] at h; cases h
theorem keys_read {h : Heap} {P : Program} {w : World} {F : Hp} : ∀ {es : List DictEntry} {kvs : List (Key × V)} {us : List (Key × Value)} {ds : List (D × D)} {ps : List (PyData × PyData)}, RepK g F kvs ds → Pairs (mixKind P w) es us → KV kvs us → toPyKv ds = some ps → ReadsAll h (es.map (·.key)) (ps.map (·.1)) []
  | es, _, us, _, ps, .nil, hp, hv, e => by
    cases hv
    cases hp
    cases e
    exact .nil
  | es, _, us, _, ps, .cons (k := k) (d := d) hr tr, hp, hv, e => by
    cases hv with
    | cons hkv tv =>
      cases hp with
      | cons hk hv t =>
        rename_i en _
        unfold toPyKv at e
        obtain ⟨pk, e1, e⟩ := Option.bind_eq_some_iff.mp e
        obtain ⟨pv, e2, e⟩ := Option.bind_eq_some_iff.mp e
        obtain ⟨q, e3, e⟩ := Option.map_eq_some_iff.mp e
        cases e
        have rest := keys_read (h := h) tr t tv e3
        have hk' : keyIs k en.key = true := by have z := hkv.1; dsimp only at z; rw [z]; exact hk
        rcases keyIs_shape hk' with ⟨i, t, rfl, ev⟩ | ⟨x, t, rfl, ev⟩
        · cases e1
          rw [List.map_cons, List.map_cons, ev]
          exact .cons (as := []) (.int i t) rest
        · cases e1
          rw [List.map_cons, List.map_cons, ev]
          exact .cons (as := []) (.str x t) rest
variable (I : L2.Inv X pins σ H s) (hS : Sub F H) (hK : X.K = g.K) (sy : ∃ u, X.base.get? sysModules = some u)
include I hS hK sy
mutual
theorem reads_rep : ∀ {v : V} {d : D}, Rep g F v d → ∀ {u : Value} {p : PyData}, RelV v u → toPy d = some p → ∃ as, Reads s.heap u p as ∧ sysModules ∉ as
  | _, _, .non, u, p, r, e => by cases e; cases r; exact ⟨_, .none, by simp⟩
  | _, _, .bl b, u, p, r, e => by cases e; cases r; exact ⟨_, .bool b, by simp⟩
  | _, _, .int i, u, p, r, e => by cases e; obtain ⟨t, rfl⟩ := r; exact ⟨_, .int i t, by simp⟩
  | _, _, .str x, u, p, r, e => by cases e; obtain ⟨t, rfl⟩ := r; exact ⟨_, .str x t, by simp⟩
  | _, _, .ref (a := a) h o, u, p, r, e => by
    obtain rfl : u = Value.ref a := r
    rcases hS _ _ h with z | ⟨_, ob, z⟩
    · exact reads_obj o z (I.hok _ _ z) e
    · exact reads_obj o z (I.hok _ _ z).2 e
  | _, _, .tup (a := a) h o, u, p, r, e => by
    obtain rfl : u = Value.ref a := r
    rename_i xs ds
    have z : H a = some (.tup xs) := by
      rcases hS _ _ h with z | ⟨z, _⟩
      · exact z
      · rcases z with ⟨_, z⟩ | ⟨_, z⟩ <;> cases z
    obtain ⟨hl, its, rv, ob, e1, e2, n, e3⟩ := I.hok _ _ z
    unfold toPy at e
    obtain ⟨q, e4, e⟩ := Option.map_eq_some_iff.mp e
    cases e
    obtain ⟨as, ra, na⟩ := reads_all o rv e4
    exact ⟨as, .tuple e1 e2 e3 (by simpa using ra), na⟩
  | _, _, .kt (a := a) h o _, u, p, r, e => by
    obtain rfl : u = Value.ref a := r
    obtain ⟨ob, its, n, e1, e2, e3, hl, rv⟩ := h
    unfold toPy at e
    obtain ⟨q, e4, e⟩ := Option.map_eq_some_iff.mp e
    cases e
    obtain ⟨as, ra, na⟩ := reads_all o rv e4
    rw [← hK] at e1
    exact ⟨as, .tuple (I.kIn _ _ e1) e2 e3 ra, na⟩
  | _, _, .res, u, p, r, e => by cases e
  | _, _, .kscr _, u, p, r, e => by cases e
theorem reads_obj : ∀ {o : HO} {d : D}, RepO g F o d → ∀ {a : Addr} {o' : HO} {p : PyData}, H a = some o' → ObjOk X.prog X.w H s.heap a o → toPy d = some p → ∃ as, Reads s.heap (.ref a) p as ∧ sysModules ∉ as
  | _, _, .lst o, a, o', p, z, ok, e => by
    obtain ⟨hl, its, n, rv, e1⟩ := ok
    unfold toPy at e
    obtain ⟨q, e4, e⟩ := Option.map_eq_some_iff.mp e
    cases e
    obtain ⟨as, ra, na⟩ := reads_all o rv e4
    exact ⟨a :: as, .list e1 rfl rfl (by simpa using ra), fun y => by
      rcases List.mem_cons.mp y with y | y
      · exact tracked_ne I sy z y.symm
      · exact na y⟩
  | _, _, .dK o, a, o', p, z, ok, e => by
    obtain ⟨hl, hsys, vs, rv, ob, es, ep, e1, ex, e2, kk, pr, nd⟩ := ok
    unfold toPy at e
    obtain ⟨q, e4, e⟩ := Option.map_eq_some_iff.mp e
    cases e
    have hk := keys_read (h := s.heap) o pr rv e4
    obtain ⟨as, ra, na⟩ := reads_kv o pr rv e4
    refine ⟨a :: [] ++ as, .dict e1 ex.1 e2 hk ra, fun y => ?_⟩
    rcases List.mem_cons.mp (show sysModules ∈ a :: as from y) with y | y
    · exact tracked_ne I sy z y.symm
    · exact na y
  | _, _, .dT _, a, o', p, z, ok, e => by unfold toPy at e; cases e
  | _, _, .ins _, a, o', p, z, ok, e => by unfold toPy at e; cases e
  | _, _, .scr, a, o', p, z, ok, e => by unfold toPy at e; cases e
theorem reads_all : ∀ {vs : List V} {ds : List D}, RepAll g F vs ds → ∀ {us : List Value} {ps : List PyData}, Vals vs us → toPyAll ds = some ps → ∃ as, ReadsAll s.heap us ps as ∧ sysModules ∉ as
  | _, _, .nil, us, ps, r, e => by cases e; cases r; exact ⟨[], .nil, by simp⟩
  | _, _, .cons h t, us, ps, r, e => by
    cases r with
    | cons rv rt =>
      unfold toPyAll at e
      obtain ⟨p, e1, e⟩ := Option.bind_eq_some_iff.mp e
      obtain ⟨q, e2, e⟩ := Option.map_eq_some_iff.mp e
      cases e
      obtain ⟨as, ra, na⟩ := reads_rep h rv e1
      obtain ⟨bs, rb, nb⟩ := reads_all t rt e2
      exact ⟨as ++ bs, .cons ra rb, fun y => (List.mem_append.mp y).elim na nb⟩
theorem reads_kv : ∀ {kvs : List (Key × V)} {ds : List (D × D)}, RepK g F kvs ds → ∀ {es : List DictEntry} {us : List (Key × Value)} {ps : List (PyData × PyData)}, Pairs (mixKind X.prog X.w) es us → KV kvs us → toPyKv ds = some ps → ∃ as, ReadsAll s.heap (es.map (·.val)) (ps.map (·.2)) as ∧ sysModules ∉ as
  | _, _, .nil, es, us, ps, pr, r, e => by
    cases r
    cases pr
    cases e
    exact ⟨[], .nil, by simp⟩
  | _, _, .cons h t, es, us, ps, pr, r, e => by
    cases r with
    | cons rv rt =>
      cases pr with
      | cons hk hv tp =>
        unfold toPyKv at e
        obtain ⟨p, e1, e⟩ := Option.bind_eq_some_iff.mp e
        obtain ⟨pv, e2, e⟩ := Option.bind_eq_some_iff.mp e
        obtain ⟨q, e3, e⟩ := Option.map_eq_some_iff.mp e
        cases e
        obtain ⟨as, ra, na⟩ := reads_rep h rv.2 e2
        obtain ⟨bs, rb, nb⟩ := reads_kv t tp rt e3
        rw [List.map_cons, List.map_cons, hv]
        exact ⟨as ++ bs, .cons ra rb, fun y => (List.mem_append.mp y).elim na nb⟩
end
end
section
variable {g : G} {X : Cx}
def rRepr (g : G) : List V → Hp → VK → Prop := fun xs H Q => ∃ v F d x, xs = [v] ∧ Sub F H ∧ Pk g F H v d ∧ reprS d = some x ∧ Q (.str x) H
theorem call_repr {k : Nat} (o : XO g k X) : CallR X (.builtin "repr") (rRepr g) := by
  intro pins s σ H xs us Q I r ⟨v, F, d, x, e, hS, hp, hx, q⟩
  subst e
  obtain ⟨u, rfl, rv⟩ := vals1 r
  unfold reprS at hx
  obtain ⟨p, e1, e2⟩ := Option.bind_eq_some_iff.mp hx
  have hf : fitsPy p = true := by
    cases hf : fitsPy p with
    | true => rfl
    | false => rw [hf] at e2; cases e2
  rw [hf, if_pos rfl] at e2
  cases e2
  unfold fitsPy at hf
  simp only [Bool.and_eq_true, decide_eq_true_eq] at hf
  obtain ⟨f1, f2, f3, f4⟩ := hf
  have hsz : p.shown.length ≤ sizeLine := PyData.shown_fits (B := 13) (by decide) (by decide) f2 f3
  have R : ∃ as, Reads s.heap u p as ∧ sysModules ∉ as := by
    rcases hp with h | ⟨a, ho, rfl, h1, h2⟩
    · exact reads_rep I hS o.K o.sy h rv e1
    · obtain rfl : u = Value.ref a := rv
      exact reads_obj I hS o.K o.sy h2 h1 (I.hok _ _ h1) e1
  obtain ⟨as, R, na⟩ := R
  have fin : ∀ (h' : Heap) (u : Tok) (tk : Nat), (∀ b o, s.heap.get? b = some o → h'.get? b = some o) → EP X pins σ Q (.str p.shown u) { s with heap := h', toks := tk } := fun h' u tk hk => ⟨.str _, H, I.kept hk, ⟨_, rfl⟩, q⟩
  cases u with
  | ref a => exact repr_of_reads' R f1 (fun _ => na) o.gd (by have := o.hu64; omega) (fun _ _ e => e) fin hsz
  | none =>
    cases R
    exact PySem.P.repr_of_none (fin s.heap _ _ fun _ _ e => e)
  | bool b =>
    cases R
    exact PySem.P.repr_of_bool (fin s.heap _ _ fun _ _ e => e)
  | int i t =>
    cases R
    have : (i.natAbs.log2 < 1920) := by unfold PyData.showable at f1; exact of_decide_eq_true f1
    exact PySem.P.repr_of_int this (fin s.heap _ _ fun _ _ e => e)
  | str x t =>
    cases R
    exact PySem.P.repr_of_str (fin s.heap _ _ fun _ _ e => e) hsz
  | _ => cases R
theorem d_repr {k : Nat} {a : Expr} {ma : M g.R.S Vr} {p pos : Pos} (o : XO g k X) (hg : Gl X "repr") (hm : X.mg "repr" = none) (ha : DE g X a ma) (he : starEach [a] X.env = (false, eval a X.env) :: starEach [] X.env := by rfl) : DE g X (.Call (.Name "repr" p) [a] [] pos) (mOp1 reprD ma) := by
  refine d_b1 (call_repr o) ⟨fun x z e i => ?_, fun F H x dx z Q s p e n => ?_⟩ (by decide +kernel) hg hm ha (by decide) (by decide) he rfl
  · unfold reprD at e
    obtain ⟨y, _, rfl⟩ := Option.map_eq_some_iff.mp e
    exact fun z => nomatch z
  · unfold reprD at e
    obtain ⟨y, ey, rfl⟩ := Option.map_eq_some_iff.mp e
    exact ⟨x, F, dx, y, rfl, s, p, ey, n.q s (.str _)⟩
end
end RW
namespace RW
open PySem L2
/-! ### the thing that is drawn from -/
def R0 : Rsc where
  S := Unit
  ad := 0
  foot := fun _ => False
  At := fun _ _ => True
  stay := fun _ _ => trivial
  there := fun _ h => h.elim
structure Dr where
  great : List Int
  rest : Int
  cells : List Int
  turn : Int
def drKvs (ga ca : Addr) (r : Dr) : List (Key × V) := [(.inr "great", .ref ga), (.inr "rest", .int r.rest), (.inr "cells", .ref ca), (.inr "turn", .int r.turn)]
def DrAt (ad ga ca : Addr) (r : Dr) (H : Hp) : Prop := H ad = some (.dK (drKvs ga ca r)) ∧ H ga = some (.lst (r.great.map V.int)) ∧ H ca = some (.lst (r.cells.map V.int))
def drawR (ad ga ca : Addr) : Rsc where
  S := Dr
  ad := ad
  foot := fun a => a = ad ∨ a = ga ∨ a = ca
  At := DrAt ad ga ca
  stay := fun ⟨h1, h2, h3⟩ h => ⟨by rw [h _ (.inl rfl)]; exact h1, by rw [h _ (.inr (.inl rfl))]; exact h2, by rw [h _ (.inr (.inr rfl))]; exact h3⟩
  there := fun ⟨h1, h2, h3⟩ h => by
    rcases h with rfl | rfl | rfl
    · exact ⟨_, h1, fun _ z => nomatch z⟩
    · exact ⟨_, h2, fun _ z => nomatch z⟩
    · exact ⟨_, h3, fun _ z => nomatch z⟩
def gD (K : PySem.W.Frag) (cls : Nat → Addr) (ad ga ca : Addr) : G := ⟨K, cls, drawR ad ga ca⟩
def g0 (K : PySem.W.Frag) (cls : Nat → Addr) : G := ⟨K, cls, R0⟩
theorem Sim.res {g : G} {F : Hp} {s : S g.R.S} {σ : St} {H H' : Hp} {r' : g.R.S} (I : Sim g F s σ H) (h : ∀ a, ¬ g.R.foot a → H' a = H a) (at_ : g.R.At r' H') : Sim g F { s with r := r' } σ H' ∧ Keep g F s σ H F { s with r := r' } σ H' := by
  refine ⟨⟨fun a o e => ?_, at_, I.foot, I.len, fun i c e => ?_, I.apart⟩, ⟨fun a o e _ nf => by rw [h a nf]; exact e, Le.refl _, fun _ _ _ _ z _ => z, fun _ z => .inl z, fun a o e => ?_⟩⟩
  · have nf : ¬ g.R.foot a := fun z => by rw [I.foot a z] at e; cases e
    rw [h a nf]; exact I.sub a o e
  · obtain ⟨v, e1, q⟩ := I.cell i c e
    refine ⟨v, e1, ?_⟩
    rcases q with q | ⟨a, p, o, b1, b2, b3, b4, b5⟩
    · exact .inl q
    · exact .inr ⟨a, p, o, b1, b2, b3, by rw [h p b3]; exact b4, b5⟩
  · by_cases nf : g.R.foot a
    · obtain ⟨o', e', _⟩ := g.R.there at_ nf
      exact ⟨o', e'⟩
    · exact ⟨o, by rw [h a nf]; exact e⟩
section
variable {K : PySem.W.Frag} {cls : Nat → Addr} {ad ga ca : Addr} {X : Cx}
theorem Sim.isRes {g : G} {F : Hp} {s : S g.R.S} {σ : St} {H : Hp} (I : Sim g F s σ H) {b : Bool} {i : Nat} (e : s.e[i]? = some (some ⟨.res, b⟩)) : σ[i]? = some (some (.ref g.R.ad)) := by
  obtain ⟨v, e1, q⟩ := I.cell i _ e
  rw [e1]
  rcases q with ⟨_, q⟩ | ⟨_, p, o, _, _, _, _, q⟩
  · cases q with
    | res => rfl
    | ref _ z => cases z
  · cases q
/-- is slot i the thing that is drawn from? -/
def isRes {R : Type} (i : Nat) (s : S R) : Bool := match s.e[i]? with
  | some (some ⟨.res, _⟩) => true
  | _ => false
theorem isRes_e {R : Type} {i : Nat} {s : S R} (h : isRes i s = true) : ∃ b, s.e[i]? = some (some ⟨.res, b⟩) := by
  unfold isRes at h
  split at h
  · exact ⟨_, by assumption⟩
  · cases h
/-- d["..."], an int -/
def mRG (i : Nat) (f : Dr → Int) : M Dr Vr := fun s => if isRes i s then some (.sh (.int (f s.r)), s) else none
theorem r_get {i : Nat} {x k : Str} {f : Dr → Int} {np cp pos : Pos} {lv : Nat} {j} (o : XO (gD K cls ad ga ca) lv X) (hv : PE X (.Name x np) (tVar i)) (hf : ∀ r, valV (drKvs ga ca r) (.inr k) = some (.int (f r))) :
    DE (gD K cls ad ga ca) X (.Subscript (.Name x np) (.Constant (.str k) j cp) pos) (mRG i f) := by
  refine PE.imp (pe_dget o.hu hv pe_str (fun _ _ => rfl)) fun σ H Q ⟨F, s, res, s', I, e, kk⟩ => ?_
  unfold mRG at e
  split at e
  · rename_i h
    cases e
    obtain ⟨b, hb⟩ := isRes_e h
    refine ⟨_, I.isRes hb, ad, .int (f s.r), rfl, .inl ⟨_, .inr k, .inl I.at_.1, rfl, (hf _).symm⟩, kk F _ H I Keep.refl (.int _)⟩
  · cases e
/-- d["..."] = e, an int -/
def mRP (i : Nat) (f : Dr → Int → Dr) (me : M Dr Vr) : MS Dr := fun s => (me s).bind fun p => match p.1 with
  | .sh (.int n) => if isRes i p.2 then some (.nx, { p.2 with r := f p.2.r n }) else none
  | _ => none
theorem r_put {i : Nat} {x k : Str} {f : Dr → Int → Dr} {me : M Dr Vr} {e : Expr} {np cp tpos pos : Pos} {lv : Nat} {j} (o : XO (gD K cls ad ga ca) lv X) (hv : PE X (.Name x np) (tVar i)) (he : DE (gD K cls ad ga ca) X e me)
    (hf : ∀ r n, putK (drKvs ga ca r) (.inr k) (.int n) = drKvs ga ca (f r n) ∧ (f r n).great = r.great ∧ (f r n).cells = r.cells)
    (hs : swapsWith e (some (.Subscript (.Name x np) (.Constant (.str k) j cp) tpos)) pos.line X.env = pure false := by rfl) :
    DS (gD K cls ad ga ca) X (.Assign [.Subscript (.Name x np) (.Constant (.str k) j cp) tpos] e pos) (mRP i f me) := by
  refine PS.imp (ps_dput o.hu hv pe_str he hs) fun E σ H ⟨F, s, fl, s', I, e, ou⟩ => ?_
  unfold mRP at e
  obtain ⟨p, e1, e⟩ := Option.bind_eq_some_iff.mp e
  split at e
  · rename_i n hp
    split at e
    · rename_i h
      cases e
      obtain ⟨b, hb⟩ := isRes_e h
      refine ⟨F, s, p.1, p.2, I, e1, fun F1 v H1 I1 K1 r1 => ?_⟩
      rw [hp] at r1
      have r1 : Rep (gD K cls ad ga ca) F1 v (.int n) := r1
      have hvn : v = .int n := by
        cases r1 with
        | int => rfl
        | ref _ z => cases z
      subst hvn
      obtain ⟨a1, a2, a3⟩ := I1.at_
      refine ⟨_, I1.isRes hb, ad, _, rfl, .inl ⟨_, .inr k, a1, rfl, (by show 4 < sizeLine; decide), rfl⟩, ?_⟩
      have n1 : ga ≠ ad := ne_of a2 a1 (fun z => nomatch z)
      have n2 : ca ≠ ad := ne_of a3 a1 (fun z => nomatch z)
      obtain ⟨f1, f2, f3⟩ := hf p.2.r n
      obtain ⟨I2, K2⟩ := I1.res (H' := upd H1 ad (.dK (putK (drKvs ga ca p.2.r) (.inr k) (.int n)))) (r' := f p.2.r n) (fun a na => upd_ne fun z => na (.inl z))
        ⟨by rw [upd_same, f1], by rw [upd_ne n1, f2]; exact a2, by rw [upd_ne n2, f3]; exact a3⟩
      exact ou F1 σ _ I2 (K1.trans K2 I2)
    · cases e
  · cases e
/-- d["great"] != [] -/
def mRB (i : Nat) (f : Dr → Bool) : M Dr Vr := fun s => if isRes i s then some (.sh (.bl (f s.r)), s) else none
theorem repAll_ints {g : G} {F : Hp} : ∀ ns : List Int, RepAll g F (ns.map V.int) (ns.map D.int)
  | [] => .nil
  | _ :: ns => .cons (.int _) (repAll_ints ns)
theorem deq_nil (ns : List Int) : deqF 60 (.lst (ns.map D.int)) (.lst []) = some (decide (ns = [])) := by
  cases ns with
  | nil => rfl
  | cons n ns => simp [deqF, toV]
theorem r_great {i : Nat} {x : Str} {np cp pos lp cpos : Pos} {lv : Nat} {j} (o : XO (gD K cls ad ga ca) lv X) (hv : PE X (.Name x np) (tVar i)) :
    DT (gD K cls ad ga ca) X (.Compare (.Subscript (.Name x np) (.Constant (.str "great") j cp) pos) [.NotEq] [.List [] lp] cpos) (mRB i fun r => !decide (r.great = [])) := by
  refine PT.imp (pt_cmpR (op_neL o) (pe_dget o.hu hv pe_str (fun _ _ => rfl)) (pe_lst pa_nil) rfl) fun σ H Q ⟨F, s, b, s', I, e, kk⟩ => ?_
  unfold mRB at e
  split at e
  · rename_i h
    cases e
    obtain ⟨b, hb⟩ := isRes_e h
    obtain ⟨a1, a2, a3⟩ := I.at_
    refine ⟨_, I.isRes hb, ad, .ref ga, rfl, .inl ⟨_, .inr "great", .inl a1, rfl, rfl⟩, (by show 0 ≤ sizeLine; exact Nat.zero_le _), fun p hp => ?_⟩
    have x0 : Ext F H F (upd H p (.lst [])) := Ext.tmp I.sub hp
    refine ⟨F, .lst (s.r.great.map D.int), .lst [], decide (s.r.great = []), x0.sub, .inr ⟨ga, _, rfl, x0.heap _ _ a2, .lst (repAll_ints _)⟩, .inr ⟨p, _, rfl, upd_same, .lst .nil⟩, deq_nil _, _, rfl, ?_⟩
    exact kk F _ (I.ext x0) (Keep.ext x0)
  · cases e
/-- d["great"].pop(0) -/
def mRPop (same : Bool) (i : Nat) : M Dr Vr := fun s => if isRes i s then (match s.r.great with
  | n :: ns => some (.sh (.int n), { s with r := { s.r with great := ns, cells := if same then ns else s.r.cells } })
  | [] => none) else none
theorem r_pop {i : Nat} {x : Str} {np cp pos apos ip cpos : Pos} {lv : Nat} {j j'} (o : XO (gD K cls ad ga ca) lv X) (hv : PE X (.Name x np) (tVar i))
    (hbase : attributeBase (.Subscript (.Name x np) (.Constant (.str "great") j cp) pos) "pop" X.env (eval (.Subscript (.Name x np) (.Constant (.str "great") j cp) pos) X.env) = eval (.Subscript (.Name x np) (.Constant (.str "great") j cp) pos) X.env := by rfl)
    (hline : (apos.endLine == cpos.line) = true := by rfl) :
    DE (gD K cls ad ga ca) X (.Call (.Attribute (.Subscript (.Name x np) (.Constant (.str "great") j cp) pos) "pop" apos) [.Constant (.int 0) j' ip] [] cpos) (mRPop (decide (ga = ca)) i) := by
  refine PE.imp (pe_bm PySem.F.plainAttrs_list PySem.F.slot_list_pop PySem.F.type_list_pop mt_popAt (pe_dget o.hu hv pe_str (fun _ _ => rfl)) (pa_cons pe_int pa_nil) (hbase := hbase) (hline := hline)) fun σ H Q ⟨F, s, res, s', I, e, kk⟩ => ?_
  unfold mRPop at e
  split at e
  · rename_i h
    split at e
    · rename_i n ns hg
      cases e
      obtain ⟨b, hb⟩ := isRes_e h
      obtain ⟨a1, a2, a3⟩ := I.at_
      have a2' : H ga = some (.lst (s.r.great.map V.int)) := a2
      rw [hg] at a2'
      refine ⟨_, I.isRes hb, ad, .ref ga, rfl, .inl ⟨_, .inr "great", .inl a1, rfl, rfl⟩, .inl ⟨rfl, _, SqL.of a2⟩, ?_⟩
      refine ⟨ga, (n :: ns).map V.int, 0, 0, .int n, rfl, rfl, a2', by decide, by decide, ?_, rfl, ?_⟩
      · simp [seqIndex?]
      · have n1 : ad ≠ ga := ne_of a1 a2 (fun z => nomatch z)
        obtain ⟨I2, K2⟩ := I.res (H' := upd H ga (.lst (((n :: ns).map V.int).eraseIdx 0))) (r' := { s.r with great := ns, cells := if decide (ga = ca) then ns else s.r.cells }) (fun a na => upd_ne fun z => na (.inr (.inl z)))
          ⟨by rw [upd_ne n1]; exact a1, upd_same, by
            by_cases z : ga = ca
            · rw [if_pos (decide_eq_true z), ← z]; exact upd_same
            · rw [if_neg (by simpa using z), upd_ne (Ne.symm z)]; exact a3⟩
        exact kk F _ _ I2 K2 (.int _)
    · cases e
  · cases e
/-! ### the thing drawn from, frozen for a while -/
def drD (r : Dr) : D := .dct false [(.str "great", .lst (r.great.map .int)), (.str "rest", .int r.rest), (.str "cells", .lst (r.cells.map .int)), (.str "turn", .int r.turn)]
def frzC (r : Dr) : Option Cell → Option Cell
  | some ⟨.res, _⟩ => some ⟨drD r, false⟩
  | some ⟨.int n, false⟩ => some ⟨.int n, false⟩
  | _ => none
def mFrz (m : MS Unit) : MS Dr := fun s => match m ⟨s.e.map (frzC s.r), ()⟩ with
  | some (.rt (.sh (.int n)), s') => some (.rt (.sh (.int n)), ⟨s'.e.map fun _ => none, s.r⟩)
  | _ => none
theorem b_frz {sts : List Stmt} {m : MS Unit} (h : DB (g0 K cls) X sts m) : DB (gD K cls ad ga ca) X sts (mFrz m) := by
  refine PSs.imp h fun E σ H ⟨F, s, fl, s', I, e, ou⟩ => ?_
  unfold mFrz at e
  split at e
  · rename_i n s1 em
    cases e
    obtain ⟨a1, a2, a3⟩ := I.at_
    let F0 : Hp := fun a => if a = ad ∨ a = ga ∨ a = ca then H a else none
    have f1 : F0 ad = some (.dK (drKvs ga ca s.r)) := by show (if _ then _ else _) = _; rw [if_pos (.inl rfl)]; exact a1
    have f2 : F0 ga = some (.lst (s.r.great.map V.int)) := by show (if _ then _ else _) = _; rw [if_pos (.inr (.inl rfl))]; exact a2
    have f3 : F0 ca = some (.lst (s.r.cells.map V.int)) := by show (if _ then _ else _) = _; rw [if_pos (.inr (.inr rfl))]; exact a3
    have sub0 : Sub F0 H := fun a o e => by
      have e : (if a = ad ∨ a = ga ∨ a = ca then H a else none) = some o := e
      split at e
      · exact .inl e
      · cases e
    have rD : Rep (g0 K cls) F0 (.ref ad) (drD s.r) := .ref f1 (.dK (.cons (k := .inr "great") (.ref f2 (.lst (repAll_ints _))) (.cons (k := .inr "rest") (.int _) (.cons (k := .inr "cells") (.ref f3 (.lst (repAll_ints _))) (.cons (k := .inr "turn") (.int _) .nil)))))
    have cells : ∀ (i : Nat) (c : Cell), (s.e.map (frzC s.r))[i]? = some (some c) → c.own = false ∧ ∃ v, σ[i]? = some (some v) ∧ Rep (g0 K cls) F0 v c.d := fun i c ec => by
      rw [List.getElem?_map] at ec
      cases q : s.e[i]? with
      | none => rw [q] at ec; cases ec
      | some oc =>
        rw [q] at ec
        have ec : frzC s.r oc = some c := Option.some.inj ec
        unfold frzC at ec
        split at ec
        · cases ec
          exact ⟨rfl, _, I.isRes q, rD⟩
        · cases ec
          obtain ⟨v, e1, z⟩ := I.cell i _ q
          refine ⟨rfl, v, e1, ?_⟩
          rcases z with ⟨_, z⟩ | ⟨z, _⟩
          · cases z with
            | int => exact .int _
            | ref _ z => cases z
          · cases z
        · cases ec
    have no0 : ∀ a, ¬ Own σ (s.e.map (frzC s.r)) a := fun a ⟨i, c, h1, h2, _⟩ => by
      rw [(cells i c h1).1] at h2; cases h2
    have I0 : Sim (g0 K cls) F0 ⟨s.e.map (frzC s.r), ()⟩ σ H := by
      refine ⟨sub0, trivial, fun _ z => z.elim, by rw [List.length_map]; exact I.len, fun i c ec => ?_, fun i j ci cj a _ e1 _ o1 _ _ => ?_⟩
      · obtain ⟨h1, v, h2, h3⟩ := cells i c ec
        exact ⟨v, h2, .inl ⟨h1, h3⟩⟩
      · rw [(cells i ci e1).1] at o1; cases o1
    refine ⟨F0, _, _, s1, I0, em, fun F' σ' v H' I' K' r' => ?_⟩
    have keep : ∀ a o, H a = some o → H' a = some o := fun a o e => K'.heap a o e (no0 a) (fun z => z)
    have r' : Rep (g0 K cls) F' v (.int n) := r'
    have hv : v = .int n := by
      cases r' with
      | int => rfl
      | ref _ z => cases z
    subst hv
    have nc : ∀ (i : Nat) (c : Cell), (s1.e.map fun _ => (none : Option Cell))[i]? ≠ some (some c) := fun i c z => by
      rw [List.getElem?_map] at z
      cases q : s1.e[i]? with
      | none => rw [q] at z; cases z
      | some _ => rw [q] at z; cases z
    refine ou F σ' (.int n) H' ⟨fun a o e => ?_, ?_, I.foot, by rw [List.length_map]; exact I'.len, fun i c z => (nc i c z).elim, fun i j ci cj a _ e1 _ _ _ _ => (nc i ci e1).elim⟩ ⟨fun a o e _ _ => keep a o e, Le.refl _, fun _ _ _ _ z _ => z, fun a ⟨i, c, z, _⟩ => (nc i c z).elim, fun a o e => ⟨o, keep a o e⟩⟩ (.int _)
    · rcases I.sub a o e with z | ⟨z, ob, z2⟩
      · exact .inl (keep a o z)
      · exact .inr ⟨z, ob, keep a _ z2⟩
    · exact ⟨keep _ _ a1, keep _ _ a2, keep _ _ a3⟩
  · cases e
end
end RW
namespace RW
open PySem L2 PyProof.Rows
/-! ### the law: the first statement makes what is drawn from -/
theorem ints_of {g : G} {F : Hp} : ∀ {xs : List V} {ns : List Int}, RepAll g F xs (ns.map D.int) → xs = ns.map V.int
  | [], [], _ => rfl
  | x :: xs, n :: ns, h => by
    cases h with
    | cons h t =>
      have e : x = .int n := by
        cases h with
        | int => rfl
        | ref _ z => cases z
      rw [e, ints_of t]; rfl
theorem Rep.ints {g : G} {F : Hp} {v : V} {ns : List Int} (h : Rep g F v (.lst (ns.map D.int))) : ∃ a, v = .ref a ∧ F a = some (.lst (ns.map V.int)) := by
  obtain ⟨a, xs, rfl, e, r⟩ := h.lstIn
  rw [ints_of r] at e
  exact ⟨a, rfl, e⟩
theorem RepK.inv {g : G} {F : Hp} {kvs : List (Key × V)} {e : D × D} {es : List (D × D)} (h : RepK g F kvs (e :: es)) : ∃ k v kvs', kvs = (k, v) :: kvs' ∧ e.1 = keyD k ∧ Rep g F v e.2 ∧ RepK g F kvs' es := by
  cases h with
  | cons h t => exact ⟨_, _, _, rfl, rfl, h, t⟩
theorem keyD_str {k : Key} {x : Str} (z : D.str x = keyD k) : k = .inr x := by
  cases k with
  | inl i => cases z
  | inr y => cases z; rfl
theorem dr_of {g : G} {F : Hp} {o : HO} {r : Dr} (h : RepO g F o (drD r)) : ∃ ga ca, o = .dK (drKvs ga ca r) ∧ F ga = some (.lst (r.great.map V.int)) ∧ F ca = some (.lst (r.cells.map V.int)) := by
  unfold drD at h
  cases h with
  | dK h =>
    obtain ⟨k1, v1, l1, rfl, q1, h1, h⟩ := h.inv
    obtain ⟨k2, v2, l2, rfl, q2, h2, h⟩ := h.inv
    obtain ⟨k3, v3, l3, rfl, q3, h3, h⟩ := h.inv
    obtain ⟨k4, v4, l4, rfl, q4, h4, h⟩ := h.inv
    cases h
    have z1 := keyD_str q1
    have z2 := keyD_str q2
    have z3 := keyD_str q3
    have z4 := keyD_str q4
    subst z1 z2 z3 z4
    obtain ⟨ga, rfl, f1⟩ := Rep.ints h1
    obtain ⟨ca, rfl, f3⟩ := Rep.ints h3
    have w2 : v2 = .int r.rest := by
      cases h2 with
      | int => rfl
      | ref _ z => cases z
    have w4 : v4 = .int r.turn := by
      cases h4 with
      | int => rfl
      | ref _ z => cases z
    subst w2 w4
    exact ⟨ga, ca, rfl, f1, f3⟩
/-- the script alone, as data -/
def scrF (v : V) (H : Hp) : Hp := fun b => if v = .ref b then (match H b with
  | some (.frz o u) => some (.frz o u)
  | _ => none) else none
theorem scr_rep {g g' : G} (hK : g'.K = g.K) {F H : Hp} {v : V} {ns : List Int} (hS : Sub F H) (h : Rep g F v (.scr ns)) : Rep g' (scrF v H) v (.scr ns) := by
  cases h with
  | kscr h => exact .kscr (by rw [hK]; exact h)
  | ref e h =>
    cases h with
    | scr =>
      rename_i a o
      have e : H a = some (.frz o (.lst (ns.map V.int))) := by
        rcases hS _ _ e with z | ⟨z, _⟩
        · exact z
        · rcases z with ⟨_, z⟩ | ⟨_, z⟩ <;> cases z
      refine .ref (o := .frz o (.lst (ns.map V.int))) ?_ .scr
      unfold scrF
      rw [if_pos rfl, e]
def lawE (nl : Nat) (ns : List Int) (d : Option Cell) : List (Option Cell) := some ⟨.scr ns, false⟩ :: d :: List.replicate nl none
section
variable {K : PySem.W.Frag} {cls : Nat → Addr} {X : Cx}
theorem law_rest {nl : Nat} {ns : List Int} {r : Dr} {m2 : Bool → MS Dr} {F : Hp} {σ : L2.St} {H : Hp} {E : Ends} (I : Sim (g0 K cls) F ⟨lawE nl ns (some ⟨drD r, true⟩), ()⟩ σ H)
    (h2 : ∀ b, ∃ s', m2 b ⟨lawE nl ns (some ⟨.res, false⟩), r⟩ = some (.rt (.sh (.bl true)), s')) (ok : ∀ H', E.rt (.bl true) H') : ∃ ad ga ca, tS (gD K cls ad ga ca) (m2 (decide (ga = ca))) E σ H := by
  obtain ⟨v0, e0, q0⟩ := I.cell 0 ⟨.scr ns, false⟩ rfl
  obtain ⟨v1, e1, q1⟩ := I.cell 1 ⟨drD r, true⟩ rfl
  rcases q1 with ⟨z, _⟩ | ⟨_, ad, o, rfl, nF, _, hH, rO⟩
  · cases z
  have r0 : Rep (g0 K cls) F v0 (.scr ns) := by
    rcases q0 with ⟨_, r0⟩ | ⟨z, _⟩
    · exact r0
    · cases z
  obtain ⟨ga, ca, rfl, f1, f3⟩ := dr_of rO
  have nd : ∀ xs : List V, ¬ IsDict (.lst xs) := fun xs z => by rcases z with ⟨_, z⟩ | ⟨_, z⟩ <;> cases z
  have h1 : H ga = some (.lst (r.great.map V.int)) := (I.sub _ _ f1).resolve_right fun z => nd _ z.1
  have h3 : H ca = some (.lst (r.cells.map V.int)) := (I.sub _ _ f3).resolve_right fun z => nd _ z.1
  obtain ⟨s', hm⟩ := h2 (decide (ga = ca))
  refine ⟨ad, ga, ca, scrF v0 H, ⟨lawE nl ns (some ⟨.res, false⟩), r⟩, _, s', ⟨fun a u e => ?_, ⟨hH, h1, h3⟩, fun a ha => ?_, I.len, fun i c ec => ?_, fun i j ci cj a _ ei _ oi _ _ => ?_⟩, hm, fun F' σ' v H' _ _ rv => ?_⟩
  · unfold scrF at e
    split at e
    · split at e
      · cases e; left; assumption
      · cases e
    · cases e
  · unfold scrF
    split
    · split
      · rename_i q
        rcases ha with rfl | rfl | rfl
        · rw [hH] at q; cases q
        · rw [h1] at q; cases q
        · rw [h3] at q; cases q
      · rfl
    · rfl
  · match i, ec with
    | 0, ec => cases ec; exact ⟨v0, e0, .inl ⟨rfl, scr_rep (g := g0 K cls) (g' := gD K cls ad ga ca) rfl I.sub r0⟩⟩
    | 1, ec => cases ec; exact ⟨_, e1, .inl ⟨rfl, .res⟩⟩
    | i + 2, ec =>
      have ec : (List.replicate nl (none : Option Cell))[i]? = some (some c) := ec
      rw [List.getElem?_replicate] at ec
      split at ec <;> cases ec
  · match i, ei with
    | 0, ei => cases ei; cases oi
    | 1, ei => cases ei; cases oi
    | i + 2, ei =>
      have ei : (List.replicate nl (none : Option Cell))[i]? = some (some ci) := ei
      rw [List.getElem?_replicate] at ei
      split at ei <;> cases ei
  · have rv : Rep (gD K cls ad ga ca) F' v (.bl true) := rv
    have : v = .bl true := by
      cases rv with
      | bl => rfl
      | ref _ z => cases z
    rw [this]; exact ok H'
def spLaw (K : PySem.W.Frag) (n : Nat) : Sp := fun vs H Q _ => ∃ (a : Addr) (ns : List Int), vs = [.ref a] ∧ ns.length ≤ n ∧ Only H ∧ SqL K H a (ns.map V.int) ∧ ∀ H', Q (.bl true) H'
theorem law_ok {P : Program} {w : World} {mg : Str → Option Value} {base : Heap} {k nl n : Nat} {st1 : Stmt} {rest : List Stmt} {N2 : List Str} {xd qual : Str} {params : Arguments} {scope : Scope} {f : Addr} {fd : FuncData} {m1 : MS Unit} {m2 : Bool → MS Dr}
    (sy : ∃ u, base.get? sysModules = some u) (F : FunD K "law" qual params (st1 :: rest) scope [] [] f fd) (S : FnScope ("script" :: xd :: N2) ["script"] scope) (hn : N2.length = nl)
    (hb1 : ∀ (cdv : Value) (A : Around) (outer : List Env) (s : Shared) (H : Hp), XO (g0 K cls) k (cxOf CX0 P w K mg base ("script" :: xd :: N2) qual scope f cdv A outer s H E0).nox → DS (g0 K cls) (cxOf CX0 P w K mg base ("script" :: xd :: N2) qual scope f cdv A outer s H E0).nox st1 m1)
    (hb2 : ∀ (ad ga ca : Addr) (cdv : Value) (A : Around) (outer : List Env) (s : Shared) (H : Hp), XO (gD K cls ad ga ca) k (cxOf CX0 P w K mg base ("script" :: xd :: N2) qual scope f cdv A outer s H E0).nox → DB (gD K cls ad ga ca) (cxOf CX0 P w K mg base ("script" :: xd :: N2) qual scope f cdv A outer s H E0).nox rest (m2 (decide (ga = ca))))
    (h1 : ∀ ns : List Int, ns.length ≤ n → ∃ r, m1 ⟨lawE nl ns none, ()⟩ = some (.nx, ⟨lawE nl ns (some ⟨drD r, true⟩), ()⟩))
    (h2 : ∀ (ns : List Int) (b : Bool) (r : Dr), ns.length ≤ n → ∃ s', m2 b ⟨lawE nl ns (some ⟨.res, false⟩), r⟩ = some (.rt (.sh (.bl true)), s')) :
    FnG P w K mg base (k + 1) f fd ["script"] (spLaw K n) := by
  refine FunD.okG F S (fun vs H Q E ⟨a, ns, e, _⟩ => by rw [e]; rfl) fun cdv A outer s H vs Q hr gd hsp => ?_
  refine ⟨tSeq (tS (g0 K cls) m1) (fun E σ H => ∃ ad ga ca, tS (gD K cls ad ga ca) (m2 (decide (ga = ca))) E σ H), PSs.nox (pss_cons (hb1 cdv A outer s H ⟨rfl, hr, rfl, S.nd, deeper_guards gd, sy⟩) ⟨fun pins s' σ' H' E' I' ⟨ad, ga, ca, q⟩ => (hb2 ad ga ca cdv A outer s H ⟨rfl, hr, rfl, S.nd, deeper_guards gd, sy⟩).run pins s' σ' H' E' I' q⟩), ?_⟩
  obtain ⟨a, ns, rfl, hlen, hO, hS, hQ⟩ := hsp
  obtain ⟨r, e1⟩ := h1 ns hlen
  let F0 : Hp := fun b => if b = a then H a else none
  have rep : Rep (g0 K cls) F0 (.ref a) (.scr ns) := by
    rcases hS with (z | ⟨o, z⟩) | z
    · rcases hO a with q | ⟨_, _, q⟩ <;> (rw [z] at q; cases q)
    · exact .ref (show F0 a = some _ by show (if a = a then H a else none) = _; rw [if_pos rfl]; exact z) .scr
    · exact .kscr fun H => .inr z
  have I : Sim (g0 K cls) F0 ⟨lawE nl ns none, ()⟩ (L2.start ("script" :: xd :: N2) [.ref a]) H := by
    have := sim_ent (g := g0 K cls) (F := F0) (H := H) (N := "script" :: xd :: N2) (vs := [.ref a]) (ds := [.scr ns]) (r := ()) (fun b o e => by
      have e : (if b = a then H a else none) = some o := e
      split at e
      · rename_i hb; rw [hb]; exact .inl e
      · cases e) trivial (fun _ z => z.elim) (.cons rep .nil)
    have ee : ent (("script" : Str) :: xd :: N2).length [D.scr ns] = lawE nl ns none := by
      show some _ :: List.replicate (N2.length + 1 + 1 - 1) none = _
      rw [hn]; rfl
    rw [ee] at this
    exact this
  refine ⟨F0, _, .nx, _, I, e1, fun F' σ' H' I' K' => ?_⟩
  exact law_rest I' (fun b => h2 ns b r hlen) hQ
end
/-! ### facts of a class for isinstance, by a test -/
def isCB (K : PySem.W.Frag) (C : Addr) : Bool := He.eqO (PySem.W.findIn K (.ref C) "__class__") (some (some (.builtin "object.__class__"))) &&
  (He.eqO (PySem.W.specialIn K (.builtin "object.__class__") "__get__") (some (some (.builtin "getset_descriptor.__get__"))) &&
    (decide (PySem.W.takesIn K (.builtin "object.__class__") = some true) && decide (PySem.W.mroIn K C (.type "object") = some true)))
theorem isCB_ok {K : PySem.W.Frag} {C : Addr} (cl : Cls K C) (h : isCB K C = true) : IsC K C := by
  unfold isCB at h
  simp only [Bool.and_eq_true] at h
  obtain ⟨h1, h2, h3, h4⟩ := h
  exact ⟨cl, He.eqO_ok h1, He.eqO_ok h2, of_decide_eq_true h3, of_decide_eq_true h4⟩
/-! ### the end -/
def SysOk (h : Heap) : Prop := ∃ o es n, h.get? sysModules = some o ∧ o.data = .dict es n
def sysB (g : Addr → Option Obj) : Bool := match g sysModules with
  | some ⟨_, _, .dict _ _, _⟩ => true
  | _ => false
theorem sysB_ok {h : Heap} (e : sysB h.get? = true) : SysOk h := by
  unfold sysB at e
  split at e
  · exact ⟨_, _, _, by assumption, rfl⟩
  · cases e
theorem law_callG {P : Program} {w : World} {K : PySem.W.Frag} {mg mb : Str → Option Value} {k n : Nat} {fa a : Addr} {fd : FuncData} {x : Str} {s1 : Shared} {vs : List Value} {ns : List Int}
    (kin : K.In s1.heap) (sy : SysOk s1.heap) (hns : s1.heap.Ns mainGlobals mg) (hbl : s1.heap.Ns builtinsNs mb) (hbb : ∀ x : Str, x ≠ "__name__" → mb x = bootBuiltins x) (hlim : s1.heap.NoLimit) (hgen : s1.gens = #[])
    (ha : s1.heap.get? a = some { cls := .type "list", data := .seq vs.toArray }) (hi : IntsAre vs ns) (hl : ns.length ≤ sizeLine) (hln : ns.length ≤ n) (hr : Room k callerA)
    (F : ∀ base : Heap, K.In base → base.Ns mainGlobals mg → (∃ u, base.get? sysModules = some u) → FnG P w K mg base k fa fd [x] (spLaw K n)) (hbind : ∀ (s : Shared) (u : Value), BindsTo s fd ⟨[u], []⟩ [(x, u)]) :
    codeAny (model P w) callerA (.call (.ref fa) ⟨[.ref a], []⟩) (fun r s' => r = .ok (.ret (.bool true)) ∧ OldK s1.heap s'.heap ∧ s'.os = s1.os ∧ AllBare s'.gens) s1 := by
  have main : ∀ H : Hp, Only H → SqL K H a (ns.map V.int) → HOk P w H s1.heap → (∀ b u, H b = some u → b = a ∧ K.lookup a = none) →
      codeAny (model P w) callerA (.call (.ref fa) ⟨[.ref a], []⟩) (fun r s' => r = .ok (.ret (.bool true)) ∧ OldK s1.heap s'.heap ∧ s'.os = s1.os ∧ AllBare s'.gens) s1 := by
    intro H hO hS hok hA
    have nodict : ∀ {b : Addr} {ob : Obj} {es : Array DictEntry} {ep : Nat}, s1.heap.get? b = some ob → ob.data = .dict es ep → H b = none := by
      intro b ob es ep e d
      cases q : H b with
      | none => rfl
      | some u =>
        rw [(hA b u q).1, ha] at e
        cases e
        exact absurd d (fun z => nomatch z)
    have ns' : ∀ {b : Addr} {m : Str → Option Value}, s1.heap.Ns b m → (hidT s1.heap H).Ns b m := by
      intro b m ⟨ob, es, ep, e, d, r⟩
      exact ⟨ob, es, ep, hidT_get e (nodict e d), d, r⟩
    have kin' : K.In (hidT s1.heap H) := by
      intro b ob e
      refine hidT_get (kin b ob e) ?_
      cases q : H b with
      | none => rfl
      | some u =>
        obtain ⟨z1, z2⟩ := hA b u q
        rw [z1, z2] at e; cases e
    have sy' : ∃ u, (hidT s1.heap H).get? sysModules = some u := by
      obtain ⟨ob, es, m, e, d⟩ := sy
      exact ⟨ob, hidT_get e (nodict e d)⟩
    obtain ⟨mc, l1, l2⟩ := hlim
    have md : L2.Mod K mg (hidT s1.heap H) := ⟨kin', ns' hns, ⟨mb, ns' hbl, hbb⟩, ⟨mc, ns' l1, l2⟩⟩
    have nob : ∀ b : Addr, b ∉ frs ([] : List Env) := fun b z => by cases z
    have e0 : Env0 P w K mg (hidT s1.heap H) callerA [] s1 H :=
      ⟨rfl, md, fun b o e => of_hidT e, Nat.le_of_eq (hidT_size _ _), trivial, fun b z => (nob b z).elim, hok, .of_eq hgen⟩
    refine codeAny_mono ((F _ kin' (ns' hns) sy').go (vs := [.ref a]) (us := [.ref a]) (Q := fun v _ => v = .bl true) hr rfl e0 (hbind s1 (.ref a)) (.cons rfl .nil) ⟨a, ns, rfl, hln, hO, hS, fun _ => rfl⟩) ?_
    intro r s' h
    match r, h with
    | .ok (.ret u), h =>
      obtain ⟨v, H', os, bare, un, hok', rv, q⟩ := h
      have q : v = .bl true := q
      subst q
      obtain rfl : u = Value.bool true := rv
      refine ⟨rfl, OldK.of_keep ?_, os, bare⟩
      intro b ob e
      cases q : H b with
      | none => exact un.keep b ob e q (nob b) (by simp)
      | some u =>
        rcases hO b with z | ⟨od, xs, z⟩
        · rw [q] at z; cases z
        · have e1 := (hok b _ z).1
          rw [e] at e1
          cases e1
          exact (hok' b _ (un.frzs b _ _ z)).1
  have rv := vals_ints hi
  have lenV := hi.length
  cases hk : K.lookup a with
  | some o =>
    have e := kin a o hk
    rw [ha] at e
    cases e
    refine main (fun _ => none) (fun _ => .inl rfl) (.inr ⟨_, vs.toArray, _, hk, rfl, rfl, rfl, ?_, by simpa using rv⟩) (fun b u z => nomatch (show (none : Option HO) = some u from z)) (fun b u z => nomatch (show (none : Option HO) = some u from z))
    rw [List.size_toArray, lenV]; exact hl
  | none =>
    let Ha : Hp := upd (fun _ => none) a (.frz { cls := .type "list", data := .seq vs.toArray } (.lst (ns.map V.int)))
    have at_a : Ha a = some (.frz { cls := .type "list", data := .seq vs.toArray } (.lst (ns.map V.int))) := upd_same
    have off : ∀ b u, Ha b = some u → b = a := fun b u z => by
      by_cases hb : b = a
      · exact hb
      · have z : upd (fun _ => none) a _ b = some u := z
        rw [upd_ne hb] at z; cases z
    refine main Ha (fun b => ?_) (.inl (.inr ⟨_, at_a⟩)) (fun b u z => ?_) (fun b u z => ⟨off b u z, hk⟩)
    · cases q : Ha b with
      | none => exact .inl rfl
      | some u =>
        have := off b u q
        subst this
        rw [at_a] at q
        exact .inr ⟨_, _, q.symm⟩
    · have := off b u z
      subst this
      rw [at_a] at z
      cases z
      exact ⟨ha, by rw [List.length_map]; exact hl, vs, _, rv, ha⟩
end RW
namespace RW
open PySem L2 StX
section
variable {g : G} {X : Cx}
/-! ### (*xs, e, ..), [*xs, e, ..] -/
def seqOf : D → Option (List D)
  | .tup ds => some ds
  | .lst ds => some ds
  | _ => none
def mStar {R : Type} (ma : M R Vr) (mr : M R (List Vr)) : M R (List D) := fun s => (ma s).bind fun p => (pk (soft p.1) p.2).bind fun d => (seqOf d).bind fun ds => (mr p.2).bind fun q => (escAll q.1 q.2).bind fun z => if ds.length + q.1.length ≤ sizeLine then some (ds ++ z.1, z.2) else none
def mStarT {R : Type} (ma : M R Vr) (mr : M R (List Vr)) : M R Vr := fun s => (mStar ma mr s).map fun q => (.sh (.tup q.1), q.2)
def mStarL {R : Type} (ma : M R Vr) (mr : M R (List Vr)) : M R Vr := fun s => (mStar ma mr s).map fun q => (.tmp (.lst q.1), q.2)
theorem RepAll.app2 {F : Hp} : ∀ {xs ys : List V} {ds es : List D}, RepAll g F xs ds → RepAll g F ys es → RepAll g F (xs ++ ys) (ds ++ es)
  | _, _, _, _, .nil, h => h
  | _, _, _, _, .cons a b, h => .cons a (RepAll.app2 b h)
theorem tStar_of {n : Nat} {ma : M g.R.S Vr} {mr : M g.R.S (List Vr)} {F : Hp} {s : S g.R.S} {σ : St} {H : Hp} {ds : List D} {s' : S g.R.S} {Q : List V → Hp → Prop} (I : Sim g F s σ H) (e : mStar ma mr s = some (ds, s')) (hK : X.K = g.K)
    (k : ∀ F' vs H', Sim g F' s' σ H' → Keep g F s σ H F' s' σ H' → RepAll g F' vs ds → vs.length ≤ sizeLine → Q vs H') : tStar X.K (tM g ma) (tMV g n mr) σ H Q := by
  unfold mStar at e
  obtain ⟨p, e1, e⟩ := Option.bind_eq_some_iff.mp e
  obtain ⟨d, e2, e⟩ := Option.bind_eq_some_iff.mp e
  obtain ⟨xs, e3, e⟩ := Option.bind_eq_some_iff.mp e
  obtain ⟨q, e4, e⟩ := Option.bind_eq_some_iff.mp e
  obtain ⟨z, e5, e⟩ := Option.bind_eq_some_iff.mp e
  split at e
  · rename_i hz
    cases e
    refine tM_soft I e1 fun F1 v H1 I1 K1 w1 => ?_
    have pk1 := w1.pk I1 e2
    have sq : ∃ a vs, v = .ref a ∧ (SqT X.K H1 a vs ∨ SqL X.K H1 a vs) ∧ RepAll g F1 vs xs := by
      cases d with
      | tup ds =>
        cases e3
        obtain ⟨a, vs, rfl, h1, h2⟩ := pk1.tup I1.sub
        exact ⟨a, vs, rfl, .inl (by rw [hK]; exact h1), h2⟩
      | lst ds =>
        cases e3
        obtain ⟨a, vs, rfl, h1, h2⟩ := pk1.lst I1.sub
        exact ⟨a, vs, rfl, .inr (SqL.of h1), h2⟩
      | _ => cases e3
    obtain ⟨a, vs, rfl, h1, h2⟩ := sq
    refine ⟨a, vs, rfl, h1, F1, p.2, q.1, q.2, I1, e4, fun F2 ys H2 I2 K2 w2 hl => ?_⟩
    obtain ⟨F3, I3, K3, r3⟩ := escAll_ok I2 w2 e5
    refine k F3 (vs ++ ys) H2 I3 ((K1.trans K2 I2).trans K3 I3) ((h2.mono (K2.grow.trans K3.grow)).app2 r3) ?_
    rw [List.length_append, h2.length, ← w2.length]
    exact hz
  · cases e
theorem d_starT {lv n : Nat} {e : Expr} {es : List Expr} {x1} {p pos : Pos} {ma : M g.R.S Vr} {mr : M g.R.S (List Vr)} (o : XO g lv X) (he : DE g X e ma) (hr : DA g X n es mr) (hs : starEach (.Starred e p :: es) X.env = (true, eval e X.env) :: starEach es X.env := by rfl) : DE g X (.Tuple (.Starred e p :: es) x1 pos) (mStarT ma mr) := by
  refine PE.imp (pe_tup (pa_star he hr hs)) fun σ H Q ⟨F, s, res, s', I, e, k⟩ => ?_
  unfold mStarT at e
  obtain ⟨q, e1, e⟩ := Option.map_eq_some_iff.mp e
  cases e
  refine tStar_of I e1 o.K fun F2 vs H1 I2 K2 r2 hl => ⟨hl, fun a ha => ?_⟩
  have x : Ext F2 H1 (upd F2 a (.tup vs)) (upd H1 a (.tup vs)) := Ext.new I2.sub ha
  exact k _ _ _ (I2.ext x) (K2.trans (Keep.ext x) (I2.ext x)) (.tup upd_same (r2.mono x.le))
/-! ### x += e, ints -/
def mAugI {R : Type} (i : Nat) (f : Int → Int → Int) (me : M R Vr) : MS R := fun s => match s.e[i]? with
  | some (some ⟨.int a, false⟩) => (me s).bind fun p => (match p.1 with
    | .sh (.int b) => some (.nx, { p.2 with e := p.2.e.set i (some ⟨.int (f a b), false⟩) })
    | _ => none)
  | _ => none
/-! ### > of texts -/
def gtD : D → D → Option Vr
  | .int i, .int j => some (.sh (.bl (decide (j < i))))
  | .str x, .str y => some (.sh (.bl (decide (y.cps.toList < x.cps.toList))))
  | _, _ => none
theorem op_gtD : OpR X (compareOp .Gt) (fun x y H Q => (rI0 fun i j => .bl (decide (j < i))) x y H Q ∨ ∃ i j, x = .str i ∧ y = .str j ∧ Q (.bl (decide (j.cps.toList < i.cps.toList))) H) := OpR.or op_gt op_gt_str
theorem p_gtD : Op2 g gtD (fun x y H Q => (rI0 fun i j => .bl (decide (j < i))) x y H Q ∨ ∃ i j, x = .str i ∧ y = .str j ∧ Q (.bl (decide (j.cps.toList < i.cps.toList))) H) := by
  refine ⟨fun x y z e i => ?_, fun F H x y dx dy z Q s p q e n => ?_⟩
  · unfold gtD at e
    split at e <;> cases e <;> exact fun z => nomatch z
  · unfold gtD at e
    split at e
    · cases e
      obtain rfl := p.int
      obtain rfl := q.int
      exact .inl ⟨_, _, rfl, rfl, n.q s (.bl _)⟩
    · cases e
      obtain rfl := p.str
      obtain rfl := q.str
      exact .inr ⟨_, _, rfl, rfl, n.q s (.bl _)⟩
    · cases e
theorem t_gtD {a b : Expr} {ma mb : M g.R.S Vr} {pos : Pos} (ha : DE g X a ma) (hb : DE g X b mb) : DT g X (.Compare a [.Gt] [b] pos) (mOp2 gtD ma mb) := t_cmp op_gtD p_gtD ha hb (nobehind _ (by decide) (by decide))
/-! ### xs.extend(ys) -/
theorem tMutS_of {i n : Nat} {T : String} {ty : D → Bool} {f : D → List D → Option (D × D)} {r : V → List V → Hp → VK → Prop} {ma : M g.R.S (List Vr)}
    (ok : ∀ F H p o d vs ds v d' Q, Sub F H → H p = some o → RepO g F o d → RepAll g F vs ds → vs.length = n → f d ds = some (v, d') → (∀ o' x, RepO g F o' d' → Rep g F x v → Q x (upd H p o')) → r (.ref p) vs H Q)
    (hty : ∀ F H v d, Sub F H → Pk g F H v d → ty d = true → tyV X.K T v H) {σ : St} {H : Hp} {Q : VK} (h : tM g (mMut i ty f ma) σ H Q) : tBM X.K T r (tVar i) (tMV g n ma) σ H Q := by
  obtain ⟨F, s, res, s', I, e, k⟩ := h
  unfold mMut at e
  split at e
  · rename_i c ec
    split at e
    · rename_i ht
      obtain ⟨p, e1, e⟩ := Option.bind_eq_some_iff.mp e
      obtain ⟨q, e2, e⟩ := Option.bind_eq_some_iff.mp e
      obtain ⟨v, ev, cv⟩ := I.cell i c ec
      have pk0 : Pk g F H v c.d := by
        rcases cv with ⟨_, b⟩ | ⟨_, p, o, b1, _, _, b4, b5⟩
        · exact .inl b
        · exact .inr ⟨p, o, b1, b4, b5⟩
      refine ⟨v, ev, hty F H v c.d I.sub pk0 ht, F, s, p.1, p.2, I, e1, fun F1 vs H1 I1 K1 w1 hl => ?_⟩
      obtain ⟨F2, I2, K2, r2⟩ := escAll_ok I1 w1 e2
      split at e
      · rename_i c2 ec2
        split at e
        · rename_i ho
          obtain ⟨z, e3, e⟩ := Option.map_eq_some_iff.mp e
          cases e
          obtain ⟨v2, ev2, cv2⟩ := I2.cell i c2 ec2
          rw [ev] at ev2; cases ev2
          rcases cv2 with ⟨z0, _⟩ | ⟨_, a, o, rfl, b2, b3, b4, b5⟩
          · rw [ho] at z0; cases z0
          · refine ok F2 H1 a o c2.d vs q.1 z.1 z.2 _ I2.sub b4 b5 r2 hl e3 fun o' x r3 r4 => ?_
            obtain ⟨I3, K3⟩ := I2.mut ec2 ho ev b4 r3
            exact k F2 x _ I3 ((K1.trans K2 I2).trans K3 I3) r4
        · cases e
      · cases e
    · cases e
  · cases e
def extL : D → List D → Option (D × D)
  | .lst xs, [.lst ys] => if xs.length + ys.length ≤ sizeLine then some (.non, .lst (xs ++ ys)) else none
  | _, _ => none
theorem d_ext {i : Nat} {e : Expr} {ma : M g.R.S (List Vr)} (h : PE X e (tBM X.K "list" rExtend (tVar i) (tMV g 1 ma))) : DE g X e (mMut i isLst extL ma) :=
  PE.imp h fun _ _ _ q => tMutS_of (fun F H p o d vs ds v d' Q hS hp r rs hl e n => by
    unfold extL at e
    split at e
    · split at e
      · rename_i hz
        cases e
        cases r with
        | lst r1 =>
          cases rs with
          | cons a b =>
            cases b
            obtain ⟨b, zs, rfl, h1, h2⟩ := Pk.lst hS (.inl a)
            exact ⟨p, b, _, zs, rfl, rfl, hp, h1, by rw [r1.length, h2.length]; exact hz, n _ _ (.lst (r1.app2 h2)) .non⟩
      · cases e
    · cases e) (fun _ _ _ _ s p t => ty_lst s p t) q
end
end RW
namespace RW
open PySem L2 PyProof.Rows
/-! ### data in order: sorted and min of tuples -/
def pyD (d : D) : PyData := (toPy d).getD .none
theorem toPyAll_map : ∀ {ds : List D} {ps : List PyData}, toPyAll ds = some ps → ds.map pyD = ps
  | [], _, e => by rw [toPyAll] at e; cases e; rfl
  | d :: ds, _, e => by
    rw [toPyAll] at e
    obtain ⟨p, e1, e⟩ := Option.bind_eq_some_iff.mp e
    obtain ⟨q, e2, e⟩ := Option.map_eq_some_iff.mp e
    cases e
    rw [List.map_cons, toPyAll_map e2]
    unfold pyD
    rw [e1]; rfl
def tupNe : PyData → Bool
  | .tuple (_ :: _) => true
  | _ => false
def noTup : PyData → Bool
  | .tuple _ => false
  | .none => false
  | _ => true
/-- these can be put in order -/
def okS (ps : List PyData) : Bool := (ps.all fun p => ps.all fun q => PySem.W.alike p q) && ((ps.all tupNe || ps.all noTup) && ps.all fun p => decide (p.depth ≤ 40))
theorem okS_alike {ps : List PyData} (h : okS ps = true) : PySem.W.AllAlike ps := by
  unfold okS at h
  simp only [Bool.and_eq_true, List.all_eq_true] at h
  exact fun d hd d' hd' => h.1 d hd d' hd'
theorem okS_kind {ps : List PyData} (h : okS ps = true) : PySem.W.Sortable ps := by
  unfold okS at h
  rw [Bool.and_eq_true, Bool.and_eq_true, Bool.or_eq_true] at h
  rcases h.2.1 with h | h <;> rw [List.all_eq_true] at h
  · refine .inl fun d hd => ?_
    have := h d hd
    unfold tupNe at this
    split at this
    · exact ⟨_, _, rfl⟩
    · cases this
  · refine .inr fun d hd => ?_
    have := h d hd
    unfold noTup at this
    split at this
    · cases this
    · cases this
    · rename_i h1 h2
      exact ⟨fun z => h2 z, fun xs z => h1 xs z⟩
theorem okS_depth {ps : List PyData} (h : okS ps = true) : ∀ p ∈ ps, p.depth ≤ 40 := by
  unfold okS at h
  rw [Bool.and_eq_true, Bool.and_eq_true, List.all_eq_true, List.all_eq_true] at h
  exact fun p hp => of_decide_eq_true (h.2.2 p hp)
section
variable {g : G} {X : Cx}
def EachR (g : G) (F : Hp) (u : Value) (d : D) : Prop := ∃ v, RelV v u ∧ Rep g F v d
theorem each_rep {F : Hp} : ∀ {vs : List V} {ds : List D} {us : List Value}, RepAll g F vs ds → Vals vs us → PySem.W.EachIs (EachR g F) us ds
  | _, _, _, .nil, r => by cases r; exact .nil
  | _, _, _, .cons h t, r => by
    cases r with
    | cons r1 r2 => exact .cons ⟨_, r1, h⟩ (each_rep t r2)
theorem rep_each {F : Hp} : ∀ {us : List Value} {ds : List D}, PySem.W.EachIs (EachR g F) us ds → ∃ vs, RepAll g F vs ds ∧ Vals vs us
  | _, _, .nil => ⟨[], .nil, .nil⟩
  | _, _, .cons ⟨v, h1, h2⟩ t => by
    obtain ⟨vs, h3, h4⟩ := rep_each t
    exact ⟨v :: vs, .cons h2 h3, .cons h1 h4⟩
theorem each_reads {pins : List (Addr × Obj)} {σ : L2.St} {F H : Hp} {s : Shared} (I : Inv X pins σ H s) (hS : Sub F H) (hK : X.K = g.K) (sy : ∃ u, X.base.get? sysModules = some u) :
    ∀ {vs : List V} {ds : List D} {us : List Value} {ps : List PyData}, RepAll g F vs ds → Vals vs us → toPyAll ds = some ps → PySem.W.EachIs (fun v b => ∃ as, Reads s.heap v (pyD b) as) us ds
  | _, _, _, _, .nil, r, _ => by cases r; exact .nil
  | _, _, _, _, .cons h t, r, e => by
    cases r with
    | cons r1 r2 =>
      rw [toPyAll] at e
      obtain ⟨p, e1, e⟩ := Option.bind_eq_some_iff.mp e
      obtain ⟨q, e2, e⟩ := Option.map_eq_some_iff.mp e
      cases e
      obtain ⟨as, ra, _⟩ := reads_rep I hS hK sy h r1 e1
      refine .cons ⟨as, ?_⟩ (each_reads I hS hK sy t r2 e2)
      unfold pyD
      rw [e1]; exact ra
def srtL (ds : List D) : List D := ds.mergeSort (PySem.W.dataLe false pyD)
def sortE : D → Option Vr
  | .lst ds => (toPyAll ds).bind fun ps => if okS ps = true then some (.tmp (.lst (srtL ds))) else none
  | _ => none
def rSortE (g : G) : List V → Hp → VK → Prop := fun xs H Q => ∃ v F ds ps, xs = [v] ∧ Sub F H ∧ Pk g F H v (.lst ds) ∧ toPyAll ds = some ps ∧ okS ps = true ∧
  ∀ ws p, RepAll g F ws (srtL ds) → H p = none → Q (.ref p) (upd H p (.lst ws))
theorem call_sortE {k : Nat} (o : XO g k X) : CallR X (.builtin "sorted") (rSortE g) := by
  intro pins s σ H xs us Q I r ⟨v, F, ds, ps, e, hS, hp, hx, hok, q⟩
  subst e
  obtain ⟨a, vs, rfl, e1, r1⟩ := hp.lst hS
  rw [Vals.ref1 r]
  obtain ⟨its, rv, hl, hz⟩ := I.list (SqL.of e1 : SqL X.K H a vs)
  have em := toPyAll_map hx
  refine PySem.W.sorted_data (R := EachR g F) (enc := pyD) hl.isList (each_rep r1 rv) (each_reads I hS o.K o.sy r1 rv hx) (by rw [em]; exact okS_alike hok) (by rw [em]; exact okS_kind hok) (by rw [← r1.length]; exact hz) (fun b hb => ?_) fun out hlen he => ?_
  · have := okS_depth hok (pyD b) (by rw [← em]; exact List.mem_map_of_mem hb)
    have := o.hu64
    omega
  · obtain ⟨ws, h1, h2⟩ := rep_each he
    obtain ⟨ep, he'⟩ := PyProof.Rows.sortedAll_at s.heap its (List.toArray out)
    have hlen' : ws.length ≤ sizeLine := by rw [h2.length, hlen, ← r1.length]; exact hz
    exact ⟨.ref _, upd H (s.heap.objs.size + 1) (.lst ws), I.laid (t' := s.toks) (fun _ _ => PyProof.Rows.sortedAll_old) (Nat.le_succ _) ⟨hlen', out, ep, h2, he'⟩, rfl, q ws _ h1 (I.hok.fresh (Nat.le_succ _))⟩
theorem p_sortD : Op1 g sortD (fun x H Q => rSortedS g.K [x] H Q ∨ ∃ (a : Addr) (kvs : List (Key × V)) (ks : List Str), [x] = [.ref a] ∧ Rd H a (.dK kvs) ∧ kvs.map (·.1) = ks.map Sum.inr ∧ ks.length < 64 ∧
    ∀ ys p, ys.Perm ks → sortedS ys = true → H p = none → Q (.ref p) (upd H p (.lst (ys.map V.str)))) := by
  refine ⟨fun x z e i => ?_, fun F H x dx z Q s p e n => ?_⟩
  · unfold sortD at e
    split at e
    · obtain ⟨xs, _, e⟩ := Option.bind_eq_some_iff.mp e
      split at e
      · cases e; exact fun z => nomatch z
      · cases e
    · obtain ⟨xs, _, e⟩ := Option.bind_eq_some_iff.mp e
      split at e
      · cases e; exact fun z => nomatch z
      · cases e
    · cases e
  · unfold sortD at e
    split at e
    · obtain ⟨xs, h1, e⟩ := Option.bind_eq_some_iff.mp e
      split at e
      · cases e
        obtain ⟨a, vs, rfl, e1, r1⟩ := p.lst s
        rw [strsOf_eq h1] at r1
        rw [rep_strs r1] at e1
        refine .inl ⟨a, xs, rfl, SqL.of e1, by assumption, fun ys p hp hs hn => ?_⟩
        rw [sortS_eq hp hs]
        exact n.newO s (.lst (all_strs _)) p hn
      · cases e
    · obtain ⟨xs, h1, e⟩ := Option.bind_eq_some_iff.mp e
      split at e
      · cases e
        obtain ⟨a, kvs, rfl, e1, r1⟩ := p.dK s
        refine .inr ⟨a, kvs, xs, rfl, e1, keysStr_eq r1 h1, by assumption, fun ys p hp hs hn => ?_⟩
        rw [sortS_eq hp hs]
        exact n.newO s (.lst (all_strs _)) p hn
      · cases e
    · cases e
/-- sorted: texts, the keys of a dict, or any data alike -/
def sortF (d : D) : Option Vr := match sortD d with
  | some r => some r
  | none => sortE d
theorem d_sorted2 {a : Expr} {ma : M g.R.S Vr} {p pos : Pos} {k : Nat} (o : XO g k X) (hg : Gl X "sorted") (hm : X.mg "sorted" = none) (ha : DE g X a ma) (he : starEach [a] X.env = (false, eval a X.env) :: starEach [] X.env := by rfl) : DE g X (.Call (.Name "sorted" p) [a] [] pos) (mOp1 sortF ma) := by
  refine d_b1 (CallR.or (CallR.or cr_sortedS (call_sortedD o.calm)) (call_sortE o)) ⟨fun x z e i => ?_, fun F H x dx z Q s p e n => ?_⟩ (by decide +kernel) hg hm ha (by decide) (by decide) he rfl
  · unfold sortF at e
    cases h : sortD x with
    | some r => rw [h] at e; cases e; exact p_sortD (g := g).no _ _ h i
    | none =>
      rw [h] at e
      have e : sortE x = some z := e
      unfold sortE at e
      split at e
      · obtain ⟨ps, _, e⟩ := Option.bind_eq_some_iff.mp e
        split at e
        · cases e; exact fun z => nomatch z
        · cases e
      · cases e
  · unfold sortF at e
    cases h : sortD dx with
    | some r =>
      rw [h] at e; cases e
      refine .inl ?_
      have := (p_sortD (g := g)).ok F H x dx z Q s p h n
      rw [o.K]; exact this
    | none =>
      rw [h] at e
      have e : sortE dx = some z := e
      unfold sortE at e
      split at e
      · obtain ⟨ps, h1, e⟩ := Option.bind_eq_some_iff.mp e
        split at e
        · cases e
          exact .inr ⟨x, F, _, ps, rfl, s, p, h1, by assumption, fun ws p r hp => n.newO s (.lst r) p hp⟩
        · cases e
      · cases e
/-! ### min of a list of data -/
theorem toPy_inv {e : D} {p : PyData} (h : toPy e = some p) : match p with
    | .none => e = .non
    | .bool b => e = .bl b
    | .int i => e = .int i
    | .str x => e = .str x
    | .list ps => ∃ ds, e = .lst ds ∧ toPyAll ds = some ps
    | .tuple ps => ∃ ds, e = .tup ds ∧ toPyAll ds = some ps
    | .dict _ => True := by
  cases e with
  | non => rw [toPy] at h; cases h; rfl
  | bl b => rw [toPy] at h; cases h; rfl
  | int i => rw [toPy] at h; cases h; rfl
  | str x => rw [toPy] at h; cases h; rfl
  | lst ds =>
    rw [toPy] at h
    obtain ⟨q, e1, e2⟩ := Option.map_eq_some_iff.mp h
    cases e2; exact ⟨ds, rfl, e1⟩
  | tup ds =>
    rw [toPy] at h
    obtain ⟨q, e1, e2⟩ := Option.map_eq_some_iff.mp h
    cases e2; exact ⟨ds, rfl, e1⟩
  | dct t es =>
    cases t with
    | false =>
      rw [toPy] at h
      obtain ⟨q, e1, e2⟩ := Option.map_eq_some_iff.mp h
      cases e2; trivial
    | true => rw [toPy] at h; cases h
  | obj _ _ => rw [toPy] at h; cases h
  | res => rw [toPy] at h; cases h
  | scr _ => rw [toPy] at h; cases h
mutual
theorem toPy_inj : ∀ (p : PyData) {d e : D}, PySem.W.alike p p = true → toPy d = some p → toPy e = some p → d = e
  | .none, d, e, _, h, h' => by
    have a : d = .non := toPy_inv h
    have b : e = .non := toPy_inv h'
    rw [a, b]
  | .bool x, d, e, _, h, h' => by
    have a : d = .bl x := toPy_inv h
    have b : e = .bl x := toPy_inv h'
    rw [a, b]
  | .int x, d, e, _, h, h' => by
    have a : d = .int x := toPy_inv h
    have b : e = .int x := toPy_inv h'
    rw [a, b]
  | .str x, d, e, _, h, h' => by
    have a : d = .str x := toPy_inv h
    have b : e = .str x := toPy_inv h'
    rw [a, b]
  | .list ps, d, e, z, h, h' => by
    obtain ⟨ds, rfl, h1⟩ : ∃ ds, d = .lst ds ∧ toPyAll ds = some ps := toPy_inv h
    obtain ⟨es, rfl, h2⟩ : ∃ ds, e = .lst ds ∧ toPyAll ds = some ps := toPy_inv h'
    rw [toPyAll_inj ps (by rw [PySem.W.alike] at z; exact z) h1 h2]
  | .tuple ps, d, e, z, h, h' => by
    obtain ⟨ds, rfl, h1⟩ : ∃ ds, d = .tup ds ∧ toPyAll ds = some ps := toPy_inv h
    obtain ⟨es, rfl, h2⟩ : ∃ ds, e = .tup ds ∧ toPyAll ds = some ps := toPy_inv h'
    rw [toPyAll_inj ps (by rw [PySem.W.alike] at z; exact z) h1 h2]
  | .dict _, d, e, z, h, h' => by simp [PySem.W.alike] at z
theorem toPyAll_inj : ∀ (ps : List PyData) {ds es : List D}, PySem.W.alikeAll ps ps = true → toPyAll ds = some ps → toPyAll es = some ps → ds = es
  | [], ds, es, _, h, h' => by
    cases ds with
    | nil =>
      cases es with
      | nil => rfl
      | cons e es =>
        rw [toPyAll] at h'
        obtain ⟨p, e1, e⟩ := Option.bind_eq_some_iff.mp h'
        obtain ⟨q, e2, e⟩ := Option.map_eq_some_iff.mp e
        cases e
    | cons e es =>
      rw [toPyAll] at h
      obtain ⟨p, e1, e⟩ := Option.bind_eq_some_iff.mp h
      obtain ⟨q, e2, e⟩ := Option.map_eq_some_iff.mp e
      cases e
  | p :: ps, ds, es, z, h, h' => by
    rw [PySem.W.alikeAll, Bool.and_eq_true] at z
    cases ds with
    | nil => rw [toPyAll] at h; cases h
    | cons d ds =>
      cases es with
      | nil => rw [toPyAll] at h'; cases h'
      | cons e es =>
        rw [toPyAll] at h h'
        obtain ⟨p1, e1, h⟩ := Option.bind_eq_some_iff.mp h
        obtain ⟨q1, e2, h⟩ := Option.map_eq_some_iff.mp h
        obtain ⟨p2, f1, h'⟩ := Option.bind_eq_some_iff.mp h'
        obtain ⟨q2, f2, h'⟩ := Option.map_eq_some_iff.mp h'
        cases h
        cases h'
        rw [toPy_inj p z.1 e1 f1, toPyAll_inj ps z.2 e2 f2]
end
def minL (d : D) (ds : List D) : D := ds.foldl (fun a y => if PySem.W.dataLt (pyD y) (pyD a) = true then y else a) d
theorem minL_py : ∀ (ds : List D) (d : D), pyD (minL d ds) = PySem.W.minD (pyD d) (ds.map pyD)
  | [], d => rfl
  | e :: ds, d => by
    have h := minL_py ds (if PySem.W.dataLt (pyD e) (pyD d) = true then e else d)
    have e1 : minL d (e :: ds) = minL (if PySem.W.dataLt (pyD e) (pyD d) = true then e else d) ds := rfl
    have e2 : PySem.W.minD (pyD d) ((e :: ds).map pyD) = PySem.W.minD (if PySem.W.dataLt (pyD e) (pyD d) = true then pyD e else pyD d) (ds.map pyD) := rfl
    rw [e1, h, e2]
    congr 1
    split <;> rfl
theorem minL_mem : ∀ (ds : List D) (d : D), minL d ds ∈ d :: ds
  | [], d => by simp [minL]
  | e :: ds, d => by
    have h := minL_mem ds (if PySem.W.dataLt (pyD e) (pyD d) = true then e else d)
    have e1 : minL d (e :: ds) = minL (if PySem.W.dataLt (pyD e) (pyD d) = true then e else d) ds := rfl
    rw [e1]
    rcases List.mem_cons.mp h with h | h
    · rw [h]; split <;> simp
    · exact List.mem_cons_of_mem _ (List.mem_cons_of_mem _ h)
def okM (ps : List PyData) : Bool := (ps.all fun p => ps.all fun q => PySem.W.alike p q) && ((ps.all fun p => match p with | .none => false | _ => true) && decide (PyData.depthAll ps ≤ 40))
def minE : D → Option Vr
  | .lst (d :: ds) => (toPyAll (d :: ds)).bind fun ps => if okM ps = true then some (.sh (minL d ds)) else none
  | _ => none
theorem toPyAll_mem : ∀ {ds : List D} {ps : List PyData}, toPyAll ds = some ps → ∀ d ∈ ds, toPy d = some (pyD d)
  | [], _, _, d, hd => by simp at hd
  | e :: ds, _, h, d, hd => by
    rw [toPyAll] at h
    obtain ⟨p1, e1, h⟩ := Option.bind_eq_some_iff.mp h
    obtain ⟨q1, e2, h⟩ := Option.map_eq_some_iff.mp h
    rcases List.mem_cons.mp hd with z | z
    · subst z; unfold pyD; rw [e1]; rfl
    · exact toPyAll_mem e2 d z
theorem rv_get {F : Hp} : ∀ {vs : List V} {ds : List D} {us : List Value}, RepAll g F vs ds → Vals vs us → ∀ (i : Nat) (u : Value), us[i]? = some u → ∃ x d, ds[i]? = some d ∧ Rep g F x d ∧ RelV x u
  | _, _, _, .nil, r, i, u, e => by cases r; simp at e
  | _, _, _, .cons h t, r, i, u, e => by
    cases r with
    | cons r1 r2 =>
      cases i with
      | zero => simp at e; subst e; exact ⟨_, _, rfl, h, r1⟩
      | succ i => exact rv_get t r2 i u (by simpa using e)
def rMinE (g : G) : List V → Hp → VK → Prop := fun xs H Q => ∃ v F d ds ps, xs = [v] ∧ Sub F H ∧ Pk g F H v (.lst (d :: ds)) ∧ toPyAll (d :: ds) = some ps ∧ okM ps = true ∧
  ∀ w, Rep g F w (minL d ds) → Q w H
theorem call_minE {k : Nat} (o : XO g k X) : CallR X (.builtin "min") (rMinE g) := by
  intro pins s σ H xs us Q I r ⟨v, F, d, ds, ps, e, hS, hp, hx, hok, q⟩
  subst e
  obtain ⟨a, vs, rfl, e1, r1⟩ := hp.lst hS
  rw [Vals.ref1 r]
  obtain ⟨its, rv, hl, hz⟩ := I.list (SqL.of e1 : SqL X.K H a vs)
  obtain ⟨as, ra, _⟩ := reads_all I hS o.K o.sy r1 rv hx
  have em := toPyAll_map hx
  rw [List.map_cons] at em
  unfold okM at hok
  rw [Bool.and_eq_true, Bool.and_eq_true, List.all_eq_true, List.all_eq_true] at hok
  have hal : ∀ x ∈ ps, ∀ y ∈ ps, PySem.W.alike x y = true := fun x hx y hy => by have := hok.1 x hx; rw [List.all_eq_true] at this; exact this y hy
  have hn : ∀ x ∈ ps, x ≠ .none := fun x hx z => by have := hok.2.1 x hx; rw [z] at this; cases this
  have hd : PyData.depthAll ps ≤ 40 := of_decide_eq_true hok.2.2
  subst em
  refine PySem.W.min_list_data (I.ok.hd o.calm) hl.isList (by simpa using ra) ⟨hal, hn⟩ (by have := o.hu64; omega) fun i u h' tk bs hi hr keep => ?_
  have hi : its[i]? = some u := by simpa using hi
  obtain ⟨x, d', e3, rx, rel⟩ := rv_get r1 rv i u hi
  have hd' : d' ∈ d :: ds := List.mem_of_getElem? e3
  have f1 := toPyAll_mem hx d' hd'
  have f2 := toPyAll_mem hx _ (minL_mem ds d)
  obtain ⟨as', ra', _⟩ := reads_rep I hS o.K o.sy rx rel f1
  have ra2 := PyProof.Rows.Reads.keeps keep ra'
  have m1 : pyD d' ∈ pyD d :: ds.map pyD := by rw [← List.map_cons]; exact List.mem_map_of_mem hd'
  have m2 : pyD (minL d ds) ∈ pyD d :: ds.map pyD := by rw [← List.map_cons]; exact List.mem_map_of_mem (minL_mem ds d)
  rw [← minL_py] at hr
  have e4 := PySem.W.alike_unique _ _ _ _ _ (hal _ m1 _ m2) ra2 hr
  rw [← e4] at f2
  have e5 : d' = minL d ds := toPy_inj _ (hal _ m1 _ m1) f1 f2
  rw [e5] at rx
  exact ⟨x, H, I.kept keep, rel, q x rx⟩
theorem p_min1 : Op1 g min1 (fun x H Q => ∃ (a : Addr) (kvs : List (Key × V)) (ks : List Str), [x] = [.ref a] ∧ Rd H a (.dK kvs) ∧ kvs.map (·.1) = ks.map Sum.inr ∧ ks ≠ [] ∧ Q (.str (minS ks)) H) := by
  refine ⟨fun x z e i => ?_, fun F H x dx z Q s p e n => ?_⟩
  · unfold min1 at e
    split at e
    · obtain ⟨xs, _, e⟩ := Option.bind_eq_some_iff.mp e
      split at e
      · cases e
      · cases e; exact fun z => nomatch z
    · cases e
  · unfold min1 at e
    split at e
    · obtain ⟨xs, h1, e⟩ := Option.bind_eq_some_iff.mp e
      split at e
      · cases e
      · cases e
        obtain ⟨a, kvs, rfl, e1, r1⟩ := p.dK s
        exact ⟨a, kvs, xs, rfl, e1, keysStr_eq r1 h1, by assumption, n F _ H (Ext.refl s) (.str _)⟩
    · cases e
def minF (d : D) : Option Vr := match min1 d with
  | some r => some r
  | none => minE d
theorem d_minF {a : Expr} {ma : M g.R.S Vr} {p pos : Pos} {k : Nat} (o : XO g k X) (hg : Gl X "min") (hm : X.mg "min" = none) (ha : DE g X a ma) (he : starEach [a] X.env = (false, eval a X.env) :: starEach [] X.env := by rfl) : DE g X (.Call (.Name "min" p) [a] [] pos) (mOp1 minF ma) := by
  refine d_b1 (CallR.or (call_minTx o.calm) (call_minE o)) ⟨fun x z e i => ?_, fun F H x dx z Q s p e n => ?_⟩ (by decide +kernel) hg hm ha (by decide) (by decide) he rfl
  · unfold minF at e
    cases h : min1 x with
    | some r => rw [h] at e; cases e; exact (p_min1 (g := g)).no _ _ h i
    | none =>
      rw [h] at e
      have e : minE x = some z := e
      unfold minE at e
      split at e
      · obtain ⟨ps, _, e⟩ := Option.bind_eq_some_iff.mp e
        split at e
        · cases e; exact fun z => nomatch z
        · cases e
      · cases e
  · unfold minF at e
    cases h : min1 dx with
    | some r =>
      rw [h] at e; cases e
      exact .inl ((p_min1 (g := g)).ok F H x dx z Q s p h n)
    | none =>
      rw [h] at e
      have e : minE dx = some z := e
      unfold minE at e
      split at e
      · obtain ⟨ps, h1, e⟩ := Option.bind_eq_some_iff.mp e
        split at e
        · cases e
          exact .inr ⟨x, F, _, _, ps, rfl, s, p, h1, by assumption, fun w r => n.q s r⟩
        · cases e
      · cases e
end
end RW
namespace RW
open PySem L2
section
variable {g : G} {X : Cx}
theorem RepK.at {F : Hp} : ∀ {kvs : List (Key × V)} {es : List (D × D)}, RepK g F kvs es → ∀ {i : Nat} {k : Key} {x : V}, kvs[i]? = some (k, x) → ∃ d, es[i]? = some (keyD k, d) ∧ Rep g F x d
  | _, _, .nil, i, k, x, e => by simp at e
  | _, _, .cons h t, i, k, x, e => by
    cases i with
    | zero => simp at e; obtain ⟨rfl, rfl⟩ := e; exact ⟨_, rfl, h⟩
    | succ i => obtain ⟨d, h1, h2⟩ := RepK.at t (i := i) (k := k) (x := x) (by simpa using e); exact ⟨d, by simpa using h1, h2⟩
/-! ### max of a list of ints, of the values of a dict -/
/-! ### xs.index(x), texts -/
def idxOfS (x : Str) : List Str → Option Nat
  | [] => none
  | y :: ys => if y = x then some 0 else (idxOfS x ys).map (· + 1)
def indexD : D → D → Option Vr
  | .lst ds, .str x => (strsOf ds).bind fun ys => (idxOfS x ys).map fun (j : Nat) => .sh (.int (j : Int))
  | _, _ => none
def mIndex {R : Type} (ma mb : M R Vr) : M R Vr := fun s => (ma s).bind fun p => (pk (soft p.1) p.2).bind fun d0 => if isLst d0 = true then (mb p.2).bind fun q => (pk (soft p.1) q.2).bind fun x => (pk (soft q.1) q.2).bind fun y => (indexD x y).map fun z => (z, q.2) else none
end
end RW
set_option maxHeartbeats 4000000
/-! sorted(set(xs)) of texts -/
namespace RW.SetTx
open PySem PySem.Spec PyProof.Rows
section
variable {P : Program} {w : World} {A : Around} {E : Value → Shared → Prop} {s : Shared} {a : Addr}
/-- a set that holds just the texts xs, laid so that it can be walked -/
structure Tr (P : Program) (w : World) (h : Heap) (a : Addr) (xs : List Str) (D : Froz.SD) (l : List Str) : Prop where
  get : h.get? a = some (Froz.sObj "set" D)
  ok : Froz.TxOk P w D l
  nd : l.Nodup
  mem : ∀ k, k ∈ l ↔ k ∈ xs
  ris : L2.Ris D.2.2.place.toList
  led : w.params.followText "set-order" = true ∨ D.2.2.led = true
def TrS (P : Program) (w : World) (h : Heap) (a : Addr) (xs : List Str) : Prop := ∃ D l, Tr P w h a xs D l
theorem TrS.at {h h' : Heap} {xs : List Str} (R : TrS P w h a xs) (k : ∀ o, h.get? a = some o → h'.get? a = some o) : TrS P w h' a xs :=
  let ⟨D, l, r⟩ := R
  ⟨D, l, k _ r.get, r.ok, r.nd, r.mem, r.ris, r.led⟩
end
end RW.SetTx
namespace RW
open PySem L2 PyProof.Rows
section
variable {g : G} {X : Cx}
/-! ### xs[::-1] -/
/-! ### sorted of a tuple of texts -/
theorem call_sortT (hcalm : X.calm = true) : CallR X (.builtin "sorted") (fun xs H Q => ∃ (a : Addr) (ks : List Str), xs = [.ref a] ∧ SqT X.K H a (ks.map V.str) ∧ ks.length < 64 ∧
    ∀ ys p, ys.Perm ks → sortedS ys = true → H p = none → Q (.ref p) (upd H p (.lst (ys.map V.str)))) := by
  intro pins s σ H xs us Q I r q
  obtain ⟨a, ks, ex, hq, h64, q⟩ := q
  subst ex
  rw [Vals.ref1 r]
  obtain ⟨its, rv, pl, hz⟩ := I.tuple hq
  obtain ⟨⟨oc, od, dt, sl⟩, ho, h1, n, h2⟩ := pl
  simp only at h1 h2
  subst h1 h2
  have hS : StrsAre its ks := strsAre_of rv
  have hal : its.length = ks.length := by have := rv.length; rw [List.length_map] at this; exact this.symm
  refine Calls.call_function_entry PyProof.Rows.kind_sorted PyProof.Rows.plain_sorted PyProof.Rows.entry_sorted (PyProof.Rows.args_sorted1 _) ?_
  unfold Builtin.«sorted»
  refine wpAny_bind (m := checkCount "sorted" 1 1 _) (wpAny_pure ?_)
  refine wpAny_bind (wpAny_collect_seq (A := X.A.in1) a (.inr rfl) ho rfl rfl (fun h' hk => ?_) (by rw [List.size_toArray, hal, sizeLine_eq]; omega))
  have I1 : L2.Inv X pins σ H { s with heap := h' } := I.kept (t' := s.toks) hk
  refine wpAny_bind (wpAny_newList ?_ (by rw [List.toList_toArray, hal, sizeLine_eq]; omega))
  simp only [List.toList_toArray]
  have hoL : (h'.push (seqObj "list" its.toArray 0)).get? h'.objs.size = some (seqObj "list" its.toArray 0) := Heap.get?_push_size _ rfl
  show wpAny _ _ _ _ _ { s with heap := h'.push (seqObj "list" its.toArray 0) }
  refine wpAny_bind (wpAny_holding (wpAny_call_entry PyProof.Rows.slot_list_sort ⟨_, hoL, rfl⟩ PyProof.Rows.entry_list_sort
    (list_sort_treeK strKind_oneLt (s := { s with heap := h'.push (seqObj "list" its.toArray 0) }) hoL hS.keysOf (fun v₁ v₂ rest e => keyKind_strs (by rw [← e]; exact hS)) (by rw [hal]; exact h64) fun st' hp hs => ⟨_, rfl, ?_⟩)
    (PyProof.Rows.args_list_sort _)))
  obtain ⟨ys, g1, g2, g3⟩ := sorted_out_str hS hp hs
  obtain ⟨e', he'⟩ := PyProof.Rows.sortedHeap_at (vs := its) (out := (arrOf st').map (·.2)) hoL
  have hlen : (ys.map V.str).length ≤ sizeLine := by
    rw [List.length_map, g2.length_eq, sizeLine_eq]; omega
  refine wpAny_pure ⟨_, rfl, .ref h'.objs.size, upd H h'.objs.size (.lst (ys.map V.str)), I1.laid (t' := s.toks) (fun b u e => ?_) (Nat.le_refl _)
    (show ObjOk X.prog X.w _ _ _ (.lst (ys.map V.str)) from ⟨hlen, ((arrOf st').map (·.2)).toList, e', vals_of_strs g1, by rw [Array.toArray_toList]; exact he'⟩), rfl, q ys _ g2 g3 (I1.hok.fresh (Nat.le_refl _))⟩
  have hb : b < h'.objs.size := Heap.lt_size e
  rw [PyProof.Rows.sortedHeap_old (Nat.ne_of_lt hb) (by rw [size_push']; exact Nat.lt_succ_of_lt hb)]
  exact Heap.get?_push_of_some _ e
def sortTp : D → Option Vr
  | .tup ds => (strsOf ds).bind fun ks => if ks.length < 64 then some (.tmp (.lst ((sortS ks).map D.str))) else none
  | _ => none
end
end RW
namespace RW
open PySem L2 PyProof.Rows
section
variable {g : G} {X : Cx}
/-- sorted: as sortF, and tuples of texts -/
def sortG (d : D) : Option Vr := match sortTp d with
  | some r => some r
  | none => sortF d
theorem d_sortG {a : Expr} {ma : M g.R.S Vr} {p pos : Pos} {k : Nat} (o : XO g k X) (hg : Gl X "sorted") (hm : X.mg "sorted" = none) (ha : DE g X a ma) (he : starEach [a] X.env = (false, eval a X.env) :: starEach [] X.env := by rfl) : DE g X (.Call (.Name "sorted" p) [a] [] pos) (mOp1 sortG ma) := by
  refine d_b1 (CallR.or (call_sortT o.calm) (CallR.or (CallR.or cr_sortedS (call_sortedD o.calm)) (call_sortE o))) ⟨fun x z e i => ?_, fun F H x dx z Q s p e n => ?_⟩ (by decide +kernel) hg hm ha (by decide) (by decide) he rfl
  · unfold sortG at e
    split at e
    · rename_i r h
      cases e
      unfold sortTp at h
      split at h
      · obtain ⟨ks, _, h⟩ := Option.bind_eq_some_iff.mp h
        split at h
        · cases h; exact fun z => nomatch z
        · cases h
      · cases h
    · unfold sortF at e
      cases h : sortD x with
      | some r => rw [h] at e; cases e; exact p_sortD (g := g).no _ _ h i
      | none =>
        rw [h] at e
        have e : sortE x = some z := e
        unfold sortE at e
        split at e
        · obtain ⟨ps, _, e⟩ := Option.bind_eq_some_iff.mp e
          split at e
          · cases e; exact fun z => nomatch z
          · cases e
        · cases e
  · unfold sortG at e
    split at e
    · rename_i r h
      cases e
      left
      unfold sortTp at h
      split at h
      · obtain ⟨ks, h1, h⟩ := Option.bind_eq_some_iff.mp h
        split at h
        · cases h
          obtain ⟨a, vs, rfl, e1, r1⟩ := p.tup s
          rw [strsOf_eq h1] at r1
          rw [rep_strs r1] at e1
          refine ⟨a, ks, rfl, by rw [o.K]; exact e1, by assumption, fun ys p hp hs hn => ?_⟩
          rw [sortS_eq hp hs]
          exact n.newO s (.lst (all_strs _)) p hn
        · cases h
      · cases h
    · right
      unfold sortF at e
      cases h : sortD dx with
      | some r =>
        rw [h] at e; cases e
        refine .inl ?_
        have := (p_sortD (g := g)).ok F H x dx z Q s p h n
        rw [o.K]; exact this
      | none =>
        rw [h] at e
        have e : sortE dx = some z := e
        unfold sortE at e
        split at e
        · obtain ⟨ps, h1, e⟩ := Option.bind_eq_some_iff.mp e
          split at e
          · cases e
            exact .inr ⟨x, F, _, ps, rfl, s, p, h1, by assumption, fun ws p r hp => n.newO s (.lst r) p hp⟩
          · cases e
        · cases e
end
end RW
namespace RW
open PySem L2
/-! ### for x in d.values(): x.clear(), behind a call that gave d, whose lists are all new -/
section
variable {g : G} {X : Cx}
def offE (e : List (Option Cell)) : List (Option Cell) := e.map (Option.map fun c => ⟨c.d, false⟩)
theorem offE_at {e : List (Option Cell)} {i : Nat} {c : Cell} (h : (offE e)[i]? = some (some c)) : c.own = false ∧ ∃ c0, e[i]? = some (some c0) ∧ c0.d = c.d := by
  unfold offE at h
  rw [List.getElem?_map] at h
  cases q : e[i]? with
  | none => rw [q] at h; cases h
  | some o =>
    cases o with
    | none => rw [q] at h; cases h
    | some c0 => rw [q] at h; cases h; exact ⟨rfl, c0, rfl, rfl⟩
theorem no_own {σ : St} {e : List (Option Cell)} (h : ∀ (i : Nat) (c : Cell), e[i]? = some (some c) → c.own = false) (a : Addr) : ¬ Own σ e a := fun ⟨i, c, e1, e2, _⟩ => by rw [h i c e1] at e2; cases e2
/-- all that is owned is kept for good -/
theorem Sim.off {F H : Hp} {s : S g.R.S} {σ : St} (I : Sim g F s σ H) : ∃ Fz, Sim g Fz ⟨offE s.e, s.r⟩ σ H ∧ Keep g F s σ H Fz ⟨offE s.e, s.r⟩ σ H := by
  classical
  let Fz : Hp := fun a => if Own σ s.e a then H a else F a
  have le : Le F Fz := fun a o h => by
    show (if Own σ s.e a then H a else F a) = _
    rw [if_neg (fun z => by rw [(I.own_at z).1] at h; cases h)]; exact h
  have sub : Sub Fz H := fun a o h => by
    have h : (if Own σ s.e a then H a else F a) = some o := h
    split at h
    · exact .inl h
    · exact I.sub a o h
  refine ⟨Fz, ⟨sub, I.at_, fun a ha => ?_, ?_, fun i c e => ?_, fun i j ci cj a n e1 e2 o1 => ?_⟩, ⟨fun a o h _ _ => h, le, fun a o h _ r n => ?_, fun a h => ?_, fun a o h => ⟨o, h⟩⟩⟩
  · show (if Own σ s.e a then H a else F a) = none
    rw [if_neg (fun z => (I.own_at z).2.1 ha)]; exact I.foot a ha
  · show (offE s.e).length = _
    unfold offE; rw [List.length_map]; exact I.len
  · obtain ⟨h1, c0, h2, h3⟩ := offE_at e
    obtain ⟨v, e1, q⟩ := I.cell i c0 h2
    refine ⟨v, e1, .inl ⟨h1, ?_⟩⟩
    rw [← h3]
    rcases q with ⟨_, b⟩ | ⟨a, p, o, b1, b2, b3, b4, b5⟩
    · exact b.mono le
    · subst b1
      refine .ref ?_ (b5.mono le)
      show (if Own σ s.e p then H p else F p) = some o
      rw [if_pos ⟨i, c0, h2, a, e1⟩]; exact b4
  · rw [(offE_at e1).1] at o1; cases o1
  · show (if Own σ s.e a then H a else F a) = none
    rw [if_neg n]; exact r
  · exact (no_own (fun i c e => (offE_at e).1) a h).elim
def atomD : D → Bool
  | .non => true
  | .bl _ => true
  | .int _ => true
  | .str _ => true
  | _ => false
theorem atoms_any {F F' : Hp} (xs : List D) : ∀ (vs : List V), xs.all atomD = true → RepAll g F vs xs → RepAll g F' vs xs := by
  induction xs with
  | nil => intro vs _ r; cases r; exact .nil
  | cons x xs ih =>
    intro vs h r
    rw [List.all_cons, Bool.and_eq_true] at h
    cases r with
    | cons a b =>
      refine .cons ?_ (ih _ h.2 b)
      have hx := h.1
      cases x <;> first | exact atom_any rfl a | cases hx
end
end RW
namespace RW
open PySem L2 PyProof.Rows
/-! ### getters of properties: what the head looks at -/
structure GetD where
  cls : Str
  attr : Str
  name : Str
  qual : Str
  st : Stmt
def pAd (K : PySem.W.Frag) (c f : Str) : Addr := He.ma K (He.ga K c) f
def gAd (K : PySem.W.Frag) (c f : Str) : Addr := match PySem.W.recIn K (pAd K c f) "property" with
  | some (.ref g :: _) => g
  | _ => 0
def fnAt (K : PySem.W.Frag) (a : Addr) : He.FnW := match K.lookup a with
  | some ⟨_, _, .func fd, _⟩ => some (fd.name, fd.qualname, fd.params, fd.body, fd.scope, fd.globals, fd.closure, fd.builtins)
  | _ => none
def GetD.val (q : GetD) : He.FnW := some (q.name, q.qual, defArgs q.st, .stmts (defBody q.st), defScope q.st, mainGlobals, [], builtinsNs)
def propB (K : PySem.W.Frag) (c f : Str) : Bool :=
  He.eqO (PySem.W.findIn K (.ref (He.ga K c)) f) (some (some (.ref (pAd K c f)))) && (He.eqO (PySem.W.specialIn K (.ref (pAd K c f)) "__get__") (some (some (.builtin "property.__get__"))) &&
    (decide (PySem.W.takesIn K (.ref (pAd K c f)) = some true) && (match PySem.W.recIn K (pAd K c f) "property" with
      | some (.ref _ :: _) => true
      | _ => false)))
theorem propB_ok {K : PySem.W.Frag} {c f : Str} (h : propB K c f = true) : PropOf K (He.ga K c) f (pAd K c f) (gAd K c f) := by
  unfold propB at h
  simp only [Bool.and_eq_true] at h
  obtain ⟨h1, h2, h3, h4⟩ := h
  refine ⟨He.eqO_ok h1, He.eqO_ok h2, of_decide_eq_true h3, ?_⟩
  unfold gAd
  split at h4
  · rename_i g rest e
    exact ⟨rest, by rw [e]⟩
  · cases h4
def codeB (K : PySem.W.Frag) (a : Addr) (qual : Str) : Bool := match K.lookup a with
  | some ⟨_, _, .func fd, _⟩ => PySem.W.codeIn K fd.code qual && (He.dflB K fd.defaults [] && He.kwdB K fd.kwdefaults [])
  | _ => false
theorem fnAt_ok {K : PySem.W.Frag} {a : Addr} {x qual : Str} {st : Stmt} (e : fnAt K a = some (x, qual, defArgs st, .stmts (defBody st), defScope st, mainGlobals, [], builtinsNs)) (hk : PySem.W.keepIn K (.ref a) = true) (hc : codeB K a qual = true) : ∃ fd, FnP K x qual st a fd := by
  unfold fnAt at e
  unfold codeB at hc
  split at e
  · rename_i oc od fd osl lk
    rw [lk] at hc
    have hc : (PySem.W.codeIn K fd.code qual && (He.dflB K fd.defaults [] && He.kwdB K fd.kwdefaults [])) = true := hc
    rw [Bool.and_eq_true, Bool.and_eq_true] at hc
    obtain ⟨h1, h2, h3⟩ := hc
    simp only [Option.some.injEq, Prod.mk.injEq] at e
    obtain ⟨e1, e2, e3, e4, e5, e6, e7, e8⟩ := e
    cases fd
    simp only at e1 e2 e3 e4 e5 e6 e7 e8 h1 h2 h3
    subst e1 e2 e3 e4 e5 e6 e7 e8
    exact ⟨_, ⟨oc, od, _, _, _, _, _, _, _, osl, rfl, lk, h1, He.dflB_ok h2, He.kwdB_ok h3⟩, hk⟩
  · cases e
def getB (K : PySem.W.Frag) (q : GetD) : Bool := propB K q.cls q.attr && (PySem.W.keepIn K (.ref (gAd K q.cls q.attr)) && codeB K (gAd K q.cls q.attr) q.qual)
def obsGet (gts : List GetD) (K : PySem.W.Frag) : He.AlD := (gts.all fun q => getB K q, gts.map fun q => fnAt K (gAd K q.cls q.attr))
def valGet (gts : List GetD) : He.AlD := (true, gts.map GetD.val)
def GetsD (gts : List GetD) (K : PySem.W.Frag) : Prop := obsGet gts K = valGet gts
section
variable {gts : List GetD} {K : PySem.W.Frag}
theorem GetsD.all_ (h : GetsD gts K) (i : Nat) {q : GetD} (e : gts[i]? = some q) : getB K q = true := by
  have c : (gts.all fun q => getB K q) = true := congrArg (fun z : He.AlD => z.1) h
  exact List.all_eq_true.mp c q (List.mem_of_getElem? e)
theorem GetsD.prop (h : GetsD gts K) (i : Nat) {q : GetD} (e : gts[i]? = some q := by rfl) : PropOf K (He.ga K q.cls) q.attr (pAd K q.cls q.attr) (gAd K q.cls q.attr) := by
  have c := h.all_ i e
  unfold getB at c
  rw [Bool.and_eq_true] at c
  exact propB_ok c.1
theorem GetsD.get (h : GetsD gts K) (i : Nat) {q : GetD} (e : gts[i]? = some q := by rfl) : ∃ fd, FnP K q.name q.qual q.st (gAd K q.cls q.attr) fd := by
  have c := h.all_ i e
  unfold getB at c
  rw [Bool.and_eq_true, Bool.and_eq_true] at c
  have e2 : (gts.map fun q => fnAt K (gAd K q.cls q.attr)) = gts.map GetD.val := congrArg (fun z : He.AlD => z.2) h
  have e3 := congrArg (fun l : List He.FnW => l[i]?) e2
  simp only [List.getElem?_map, e, Option.map_some, Option.some.injEq] at e3
  exact fnAt_ok e3 c.2.1 c.2.2
end
/-! ### the hook -/
def obsP (n : Nat) (fa : List He.Fa) (fn : List He.DefD) (gts : List GetD) (ex : PySem.W.Frag → Bool) (g : Addr → Option Obj) : ((Bool × Bool) × He.AlD) × He.AlD :=
  let K := He.frG g (He.asD g n)
  (((sysB g, ex K), He.obsD fa fn K), obsGet gts K)
structure SaysP (fa : List He.Fa) (fn : List He.DefD) (gts : List GetD) (ex : PySem.W.Frag → Bool) (h : Heap) (K : PySem.W.Frag) : Prop where
  kin : K.In h
  c : He.SaysD fa fn K
  ex : ex K = true
  sy : SysOk h
  gt : GetsD gts K
def hookP (n : Nat) (fa : List He.Fa) (fn : List He.DefD) (gts : List GetD) (ex : PySem.W.Frag → Bool) : PySem.W.Hook where
  α := ((Bool × Bool) × He.AlD) × He.AlD
  obs := fun s => obsP n fa fn gts ex s.heap.get?
  val := fun _ => (((true, true), He.valD fn), valGet gts)
  says := fun _ h => ∃ K : PySem.W.Frag, SaysP fa fn gts ex h K
  of := fun _ s e => ⟨_, He.frG_in, congrArg (fun z : ((Bool × Bool) × He.AlD) × He.AlD => z.1.2) e, congrArg (fun z : ((Bool × Bool) × He.AlD) × He.AlD => z.1.1.2) e, sysB_ok (congrArg (fun z : ((Bool × Bool) × He.AlD) × He.AlD => z.1.1.1) e), congrArg (fun z : ((Bool × Bool) × He.AlD) × He.AlD => z.2) e⟩
  keeps := fun _ _ _ ⟨K, hK, c, e, ⟨o, es, n, h1, h2⟩, gt⟩ k => ⟨K, PySem.W.Frag.In.keeps hK k, c, e, ⟨o, es, n, k _ _ h1, h2⟩, gt⟩
theorem obsP_eq {n : Nat} {fa : List He.Fa} {fn : List He.DefD} {gts : List GetD} {ex : PySem.W.Frag → Bool} {g : Addr → Option Obj} {s : Shared} (h : ∀ a, g a = s.heap.get? a) : obsP n fa fn gts ex g = (hookP n fa fn gts ex).obs s := by
  have e : g = s.heap.get? := funext h
  rw [e]; rfl
theorem end_ofP {l : PySem.W.OpenLaw} {n k : Nat} {q : Program} {loose : List Str} {XP : (Str → Option Value) → Heap → Prop} {d : DefRec} {x : Str} {fa : List He.Fa} {fn : List He.DefD} {gts : List GetD} {ex : PySem.W.Frag → Bool} {dep : Nat}
    (hn : l.most = some n) (hn2 : n ≤ sizeLine) (hdf : d.params.defaults = []) (hr : Room k callerA)
    (F : ∀ (w : World) (mg : Str → Option Value) (f : Addr) (h : Heap) (K : PySem.W.Frag), SaysP fa fn gts ex h K → h.Ns mainGlobals mg → mg d.name = some (.ref f) →
      ∃ fd : FuncData, (∀ (s : Shared) (u : Value), BindsTo s fd ⟨[u], []⟩ [(x, u)]) ∧
        ∀ base : Heap, K.In base → base.Ns mainGlobals mg → (∃ u, base.get? sysModules = some u) → FnG l.prog w K mg base k f fd [x] (spLaw K n)) :
    PySem.W.WalkO q loose XP (hookP dep fa fn gts ex).says l.row.toRowW d [] (fun f vs => PySem.call f vs) := by
  refine Att.attach_call hn hdf ?_
  intro w s0 s1 mg mb f o pm cd doc a vs ns G Y ho hd hcd hmg hobj hints hlen hg
  obtain ⟨K, hK⟩ := Y
  obtain ⟨fd, hb, hF⟩ := F w mg f _ K hK G.T.g hmg
  exact law_callG hK.kin hK.sy G.T.g G.T.b G.T.builtins G.T.nolimit hg hobj hints (Nat.le_trans hlen hn2) hlen hr hF hb
/-! ### x is False -/
end RW
namespace RW
open PySem L2
section
variable {g : G} {X : Cx}
/-! ### [e for x in xs if t for y in ys if u]: ys a list or a tuple -/
/-- the heap without a list that is being made -/
def offH (H : Hp) (p : Addr) : Hp := fun a => if a = p then none else H a
theorem offH_ne {H : Hp} {p a : Addr} (h : a ≠ p) : offH H p a = H a := if_neg h
theorem Keep.off {F0 F : Hp} {s0 s : S g.R.S} {σ0 σ : St} {H0 H : Hp} {p : Addr} (K : Keep g F0 s0 σ0 H0 F s σ H) (h0 : H0 p = none) : Keep g F0 s0 σ0 H0 F s σ (offH H p) :=
  ⟨fun a o h n nf => by rw [offH_ne (fun z => by rw [z, h0] at h; cases h)]; exact K.heap a o h n nf, K.grow, K.nof, K.own, fun a o h => by rw [offH_ne (fun z => by rw [z, h0] at h; cases h)]; exact K.there a o h⟩
end
end RW
namespace RW
open PySem L2
section
variable {g : G} {X : Cx}
/-! ### new things that are nobody's yet, and that what is known of the heap does not name -/
structure Gst (g : G) (F : Hp) (e : List (Option Cell)) (σ : St) (H : Hp) (Γ : Hp) : Prop where
  at_ : ∀ a o, Γ a = some o → H a = some o
  nt : ∀ a o, Γ a = some o → NT o
  nf : ∀ a o, Γ a = some o → F a = none
  no : ∀ a o, Γ a = some o → ¬ Own σ e a
  ft : ∀ a o, Γ a = some o → ¬ g.R.foot a
theorem Gst.keep {F F' H H' Γ : Hp} {s s' : S g.R.S} {σ σ' : St} (G : Gst g F s.e σ H Γ) (K : Keep g F s σ H F' s' σ' H') : Gst g F' s'.e σ' H' Γ :=
  ⟨fun a o h => K.heap a o (G.at_ a o h) (G.no a o h) (G.ft a o h), G.nt, fun a o h => K.nof a o (G.at_ a o h) (G.nt a o h) (G.nf a o h) (G.no a o h), fun a o h z => (K.own a z).elim (G.no a o h) (fun z => by rw [G.at_ a o h] at z; cases z), G.ft⟩
def un (F Γ : Hp) : Hp := fun a => match Γ a with
  | some o => some o
  | none => F a
theorem un_in {F Γ : Hp} {a : Addr} {o : HO} (h : Γ a = some o) : un F Γ a = some o := by unfold un; rw [h]
theorem un_out {F Γ : Hp} {a : Addr} (h : Γ a = none) : un F Γ a = F a := by unfold un; rw [h]
theorem Gst.le {F H Γ : Hp} {e : List (Option Cell)} {σ : St} (G : Gst g F e σ H Γ) : Le F (un F Γ) := fun a o h => by
  cases z : Γ a with
  | none => rw [un_out z]; exact h
  | some u => rw [G.nf a u z] at h; cases h
theorem Gst.merge {F H Γ : Hp} {s : S g.R.S} {σ : St} (G : Gst g F s.e σ H Γ) (I : Sim g F s σ H) : Sim g (un F Γ) s σ H := by
  refine ⟨fun a o h => ?_, I.at_, fun a ha => ?_, I.len, fun i c e => ?_, I.apart⟩
  · cases z : Γ a with
    | none => rw [un_out z] at h; exact I.sub a o h
    | some u => rw [un_in z] at h; cases h; exact .inl (G.at_ a _ z)
  · cases z : Γ a with
    | none => rw [un_out z]; exact I.foot a ha
    | some u => exact (G.ft a u z ha).elim
  · obtain ⟨v, e1, q⟩ := I.cell i c e
    refine ⟨v, e1, ?_⟩
    rcases q with ⟨x, y⟩ | ⟨x, p, o, b1, b2, b3, b4, b5⟩
    · exact .inl ⟨x, y.mono G.le⟩
    · refine .inr ⟨x, p, o, b1, ?_, b3, b4, b5.mono G.le⟩
      cases z : Γ p with
      | none => rw [un_out z]; exact b2
      | some u => exact (G.no p u z ⟨i, c, e, x, by rw [e1, b1]⟩).elim
theorem Keep.merge {F0 F H0 H Γ : Hp} {s0 s : S g.R.S} {σ0 σ : St} (K : Keep g F0 s0 σ0 H0 F s σ H) (hf : ∀ a o, Γ a = some o → H0 a = none) (le : Le F (un F Γ)) : Keep g F0 s0 σ0 H0 (un F Γ) s σ H :=
  ⟨K.heap, K.grow.trans le, (fun a o h nt r n => by
    cases z : Γ a with
    | none => rw [un_out z]; exact K.nof a o h nt r n
    | some u => rw [hf a u z] at h; cases h), K.own, K.there⟩
/-- a thing that was new, or a slot's, is changed -/
theorem Keep.upd' {F0 F H0 H : Hp} {s0 s : S g.R.S} {σ0 σ : St} {p : Addr} {o : HO} (K : Keep g F0 s0 σ0 H0 F s σ H) (h0 : H0 p = none ∨ Own σ0 s0.e p) : Keep g F0 s0 σ0 H0 F s σ (upd H p o) := by
  refine ⟨fun a u e n nf => ?_, K.grow, K.nof, K.own, fun a u e => ?_⟩
  · by_cases z : a = p
    · subst z
      rcases h0 with h0 | h0
      · rw [h0] at e; cases e
      · exact (n h0).elim
    · rw [upd_ne z]; exact K.heap a u e n nf
  · by_cases z : a = p
    · subst z; exact ⟨o, upd_same⟩
    · rw [upd_ne z]; exact K.there a u e
/-! slots -/
theorem set_none {e : List (Option Cell)} {i k : Nat} {c : Cell} (h : (e.set i none)[k]? = some (some c)) : i ≠ k ∧ e[k]? = some (some c) := by
  rw [List.getElem?_set] at h
  split at h
  · split at h <;> cases h
  · rename_i n; exact ⟨n, h⟩
theorem set_sh {e : List (Option Cell)} {i k : Nat} {c c0 : Cell} (h : (e.set i (some c0))[k]? = some (some c)) : (i = k ∧ c = c0) ∨ (i ≠ k ∧ e[k]? = some (some c)) := by
  rw [List.getElem?_set] at h
  split at h
  · rename_i n
    split at h
    · cases h; exact .inl ⟨n, rfl⟩
    · cases h
  · rename_i n; exact .inr ⟨n, h⟩
theorem own_drop {e : List (Option Cell)} {σ : St} {i : Nat} {v : Option V} {a : Addr} (h : Own (σ.set i v) (e.set i none) a) : Own σ e a := by
  obtain ⟨k, c, h1, h2, h3⟩ := h
  obtain ⟨n, h1⟩ := set_none h1
  rw [List.getElem?_set_ne n] at h3
  exact ⟨k, c, h1, h2, h3⟩
theorem own_dropE {e : List (Option Cell)} {σ : St} {i : Nat} {a : Addr} (h : Own σ (e.set i none) a) : Own σ e a := by
  obtain ⟨k, c, h1, h2, h3⟩ := h
  exact ⟨k, c, (set_none h1).2, h2, h3⟩
theorem own_sh {e : List (Option Cell)} {σ : St} {i : Nat} {d : D} {a : Addr} (h : Own σ (e.set i (some ⟨d, false⟩)) a) : Own σ e a := by
  obtain ⟨k, c, h1, h2, h3⟩ := h
  rcases set_sh h1 with ⟨_, z⟩ | ⟨_, z⟩
  · rw [z] at h2; cases h2
  · exact ⟨k, c, z, h2, h3⟩
theorem Sim.drop {F H : Hp} {s : S g.R.S} {σ : St} (I : Sim g F s σ H) (i : Nat) (v : Option V) : Sim g F ⟨s.e.set i none, s.r⟩ (σ.set i v) H := by
  refine ⟨I.sub, I.at_, I.foot, by show (s.e.set i none).length = _; rw [List.length_set, List.length_set]; exact I.len, fun k c h => ?_, fun k1 k2 c1 c2 a n x1 x2 o1 o2 q => ?_⟩
  · obtain ⟨n, h⟩ := set_none h
    obtain ⟨w, h1, h2⟩ := I.cell k c h
    exact ⟨w, by rw [List.getElem?_set_ne n]; exact h1, h2⟩
  · obtain ⟨n1, x1⟩ := set_none x1
    obtain ⟨n2, x2⟩ := set_none x2
    rw [List.getElem?_set_ne n1] at q
    rw [List.getElem?_set_ne n2]
    exact I.apart k1 k2 c1 c2 a n x1 x2 o1 o2 q
theorem Sim.dropE {F H : Hp} {s : S g.R.S} {σ : St} (I : Sim g F s σ H) (i : Nat) : Sim g F ⟨s.e.set i none, s.r⟩ σ H :=
  ⟨I.sub, I.at_, I.foot, by show (s.e.set i none).length = _; rw [List.length_set]; exact I.len, fun k c h => I.cell k c (set_none h).2, fun k1 k2 c1 c2 a n x1 x2 o1 o2 q => I.apart k1 k2 c1 c2 a n (set_none x1).2 (set_none x2).2 o1 o2 q⟩
theorem Sim.setSh {F H : Hp} {s : S g.R.S} {σ : St} (I : Sim g F s σ H) {i : Nat} {d : D} {v : V} (hv : σ[i]? = some (some v)) (r : Rep g F v d) : Sim g F ⟨s.e.set i (some ⟨d, false⟩), s.r⟩ σ H := by
  refine ⟨I.sub, I.at_, I.foot, by show (s.e.set i _).length = _; rw [List.length_set]; exact I.len, fun k c h => ?_, fun k1 k2 c1 c2 a n x1 x2 o1 o2 q => ?_⟩
  · rcases set_sh h with ⟨rfl, rfl⟩ | ⟨_, h⟩
    · exact ⟨v, hv, .inl ⟨rfl, r⟩⟩
    · exact I.cell k c h
  · rcases set_sh x1 with ⟨_, rfl⟩ | ⟨_, x1⟩
    · cases o1
    · rcases set_sh x2 with ⟨_, rfl⟩ | ⟨_, x2⟩
      · cases o2
      · exact I.apart k1 k2 c1 c2 a n x1 x2 o1 o2 q
/-- a slot gets a new thing of its own -/
theorem Sim.setOwn {F H : Hp} {s : S g.R.S} {σ : St} (I : Sim g F s σ H) {i : Nat} {d : D} {p : Addr} {o : HO} (hv : σ[i]? = some (some (.ref p))) (nf : F p = none) (ft : ¬ g.R.foot p) (no : ¬ Own σ s.e p) (hp : H p = some o) (r : RepO g F o d) : Sim g F ⟨s.e.set i (some ⟨d, true⟩), s.r⟩ σ H := by
  refine ⟨I.sub, I.at_, I.foot, by show (s.e.set i _).length = _; rw [List.length_set]; exact I.len, fun k c h => ?_, fun k1 k2 c1 c2 a n x1 x2 o1 o2 q => ?_⟩
  · rcases set_sh h with ⟨rfl, rfl⟩ | ⟨_, h⟩
    · exact ⟨_, hv, .inr ⟨rfl, p, o, rfl, nf, ft, hp, r⟩⟩
    · exact I.cell k c h
  · rcases set_sh x1 with ⟨rfl, rfl⟩ | ⟨_, x1⟩
    · rcases set_sh x2 with ⟨z, _⟩ | ⟨_, x2⟩
      · exact (n z).elim
      · rw [hv] at q; cases q
        exact fun q2 => no ⟨k2, c2, x2, o2, q2⟩
    · rcases set_sh x2 with ⟨rfl, rfl⟩ | ⟨_, x2⟩
      · intro q2
        rw [hv] at q2; cases q2
        exact no ⟨k1, c1, x1, o1, q⟩
      · exact I.apart k1 k2 c1 c2 a n x1 x2 o1 o2 q
theorem own_set {e : List (Option Cell)} {σ : St} {i : Nat} {d : D} {p a : Addr} (hv : σ[i]? = some (some (.ref p))) (h : Own σ (e.set i (some ⟨d, true⟩)) a) : a = p ∨ Own σ e a := by
  obtain ⟨k, c, h1, h2, h3⟩ := h
  rcases set_sh h1 with ⟨rfl, z⟩ | ⟨_, z⟩
  · rw [hv] at h3; cases h3; exact .inl rfl
  · exact .inr ⟨k, c, z, h2, h3⟩
/-! ### [f(x) for x in xs], each a new thing -/
inductive Itm (g : G) (F Γ : Hp) : List Addr → List D → Prop
  | nil : Itm g F Γ [] []
  | cons {q : Addr} {o : HO} {d : D} {qs : List Addr} {ds : List D} : Γ q = some o → RepO g F o d → Itm g F Γ qs ds → Itm g F Γ (q :: qs) (d :: ds)
theorem Itm.mono {F F' Γ Γ' : Hp} (le : Le F F') : ∀ {qs : List Addr} {ds : List D}, Itm g F Γ qs ds → (∀ q ∈ qs, Γ' q = Γ q) → Itm g F' Γ' qs ds
  | _, _, .nil, _ => .nil
  | _, _, .cons h1 h2 t, h => .cons (by rw [h _ List.mem_cons_self]; exact h1) (h2.mono le) (t.mono le fun q hq => h q (List.mem_cons_of_mem _ hq))
theorem Itm.append {F Γ : Hp} {q : Addr} {o : HO} {d : D} (h1 : Γ q = some o) (h2 : RepO g F o d) : ∀ {qs : List Addr} {ds : List D}, Itm g F Γ qs ds → Itm g F Γ (qs ++ [q]) (ds ++ [d])
  | _, _, .nil => .cons h1 h2 .nil
  | _, _, .cons a b t => .cons a b (t.append h1 h2)
theorem Itm.length {F Γ : Hp} : ∀ {qs : List Addr} {ds : List D}, Itm g F Γ qs ds → qs.length = ds.length
  | _, _, .nil => rfl
  | _, _, .cons _ _ t => by rw [List.length_cons, List.length_cons, t.length]
theorem Itm.mem {F Γ : Hp} : ∀ {qs : List Addr} {ds : List D}, Itm g F Γ qs ds → ∀ q ∈ qs, ∃ o, Γ q = some o
  | _, _, .nil, q, h => by cases h
  | _, _, .cons h1 _ t, q, h => by
    rcases List.mem_cons.mp h with rfl | h
    · exact ⟨_, h1⟩
    · exact t.mem q h
theorem Itm.at {F Γ : Hp} : ∀ {qs : List Addr} {ds : List D}, Itm g F Γ qs ds → ∀ {k : Nat} {d : D}, ds[k]? = some d → ∃ q o, qs[k]? = some q ∧ Γ q = some o ∧ RepO g F o d
  | _, _, .nil, k, d, h => by simp at h
  | _, _, .cons h1 h2 t, k, d, h => by
    cases k with
    | zero => simp at h; subst h; exact ⟨_, _, rfl, h1, h2⟩
    | succ k => obtain ⟨q, o, a, b, c⟩ := t.at (k := k) (by simpa using h); exact ⟨q, o, by simpa using a, b, c⟩
/-- one of them is changed -/
theorem Itm.set {F Γ : Hp} {q : Addr} {o : HO} {d : D} (h2 : RepO g F o d) : ∀ {qs : List Addr} {ds : List D} {k : Nat}, Itm g F Γ qs ds → qs.Nodup → qs[k]? = some q → Itm g F (upd Γ q o) qs (ds.set k d)
  | _, _, k, .nil, _, e => by simp at e
  | q0 :: qs, _, 0, .cons _ _ t, n, e => by
    simp at e; subst e
    refine .cons upd_same h2 (t.mono (Le.refl _) fun q hq => upd_ne fun z => ?_)
    subst z; exact (List.nodup_cons.mp n).1 hq
  | q0 :: qs, _, k + 1, .cons a b t, n, e => by
    have e : qs[k]? = some q := by simpa using e
    refine .cons ?_ b (t.set h2 (List.nodup_cons.mp n).2 e)
    rw [upd_ne fun z => (List.nodup_cons.mp n).1 (by rw [z]; exact List.mem_of_getElem? e)]
    exact a
theorem Itm.reps {F Γ : Hp} (le : Le F (un F Γ)) : ∀ {qs : List Addr} {ds : List D}, Itm g F Γ qs ds → RepAll g (un F Γ) (qs.map V.ref) ds
  | _, _, .nil => .nil
  | _, _, .cons a b t => .cons (.ref (un_in a) (b.mono le)) (t.reps le)
def lcG {R : Type} (vs : List Nat) (T : Tg) (me : M R Vr) : List D → List D → M R (List D)
  | [], acc => fun s => some (acc, s)
  | d :: ds, acc => fun s => if plainAt s.e vs then (bindT T d (wipeE s.e vs)).bind fun e' => (me { s with e := e' }).bind fun q => match q.1 with
      | .tmp d6 => if acc.length < sizeLine then lcG vs T me ds (acc ++ [d6]) { q.2 with e := backE s.e q.2.e vs } else none
      | _ => none
    else none
def mLcG {R : Type} (vs : List Nat) (mi : M R (List D)) (T : Tg) (me : M R Vr) : M R (List D) := fun s => (mi s).bind fun p => lcG vs T me p.1 [] p.2
/-- what is known behind it -/
def GoodL (g : G) (F : Hp) (s : S g.R.S) (σ : St) (H : Hp) (sf : S g.R.S) (ds : List D) (F' : Hp) (l : Addr) (qs : List Addr) (Γ H' : Hp) : Prop :=
  Sim g F' sf σ H' ∧ Keep g F s σ H F' sf σ H' ∧ Gst g F' sf.e σ H' Γ ∧ (∀ a o, Γ a = some o → H a = none) ∧ Γ l = some (.lst (qs.map V.ref)) ∧ (l :: qs).Nodup ∧ Itm g F' Γ qs ds
theorem tLcG_of {vs : List Nat} {mi : M g.R.S (List D)} {T : Tg} {me : M g.R.S Vr} {σ : St} {H : Hp} {Q : VK} (hT : ∀ j ∈ tSlots T, j ∈ vs) {F : Hp} {s sf : S g.R.S} {qf : List D} (I : Sim g F s σ H) (e : mLcG vs mi T me s = some (qf, sf))
    (k : ∀ F' l qs Γ H', GoodL g F s σ H sf qf F' l qs Γ H' → Q (.ref l) H') : tLc (tI g X mi) (tG g T) (tMB g (mC (.bl true))) (tM g me) vs σ H (fun v H' => Ul X (Q v) H') := by
  unfold mLcG at e
  obtain ⟨⟨ds, s1⟩, e1, e2⟩ := Option.bind_eq_some_iff.mp e
  refine ⟨F, s, ds, s1, I, e1, fun F1 H1 HL J I1 K1 l it p hp => ?_⟩
  have IL := I1.lock l
  have ft : ¬ g.R.foot p := IL.nofoot hp
  have x0 : Ext F1 HL F1 (upd HL p (.lst [])) := Ext.tmp IL.sub hp
  have no0 : ¬ Own σ s1.e p := fun z => by
    obtain ⟨o, e, _⟩ := (IL.own_at z).2.2
    rw [hp] at e; cases e
  refine ⟨fun i m H' => m = ds.length - i ∧ i ≤ ds.length ∧ ∃ F' s' qs ad Γ, Sim g F' s' σ H' ∧ Keep g F1 s1 σ HL F' s' σ H' ∧ Gst g F' s'.e σ H' Γ ∧ (∀ a o, Γ a = some o → HL a = none) ∧ Γ p = some (.lst (qs.map V.ref)) ∧ (p :: qs).Nodup ∧ Itm g F' Γ qs ad ∧ lcG vs T me (ds.drop i) ad s' = some (qf, sf),
    ⟨_, rfl, Nat.zero_le _, F1, s1, [], [], (fun a => if a = p then some (.lst []) else none), IL.ext x0, Keep.ext x0, ?_, ?_, if_pos rfl, by simp, .nil, by simpa using e2⟩, ?_⟩
  · have only : ∀ a (o : HO), (if a = p then some (.lst []) else none : Option HO) = some o → a = p ∧ o = .lst [] := fun a o h => by
      split at h
      · rename_i z; cases h; exact ⟨z, rfl⟩
      · cases h
    refine ⟨fun a o h => ?_, fun a o h => ?_, fun a o h => ?_, fun a o h => ?_, fun a o h => ?_⟩ <;> obtain ⟨rfl, rfl⟩ := only a o h
    · exact upd_same
    · exact fun _ z => nomatch z
    · exact IL.sub.free hp
    · exact no0
    · exact ft
  · intro a o h
    have h : (if a = p then some (.lst []) else none : Option HO) = some o := h
    split at h
    · rename_i z; rw [z]; exact hp
    · cases h
  rintro i m H2 ⟨rfl, hi, F2, s2, qs, ad, Γ, I2, K2, G2, fr2, gp, nd2, it2, e2⟩
  have pr := Keep.pres IL K2
  by_cases hlt : i < ds.length
  · have hd : ds[i]? = some ds[i] := List.getElem?_eq_getElem hlt
    obtain ⟨go, yl⟩ := it.go F2 H2 K2.grow I2.sub pr i _ hd
    rw [List.drop_eq_getElem_cons hlt] at e2
    unfold lcG at e2
    cases pl : plainAt s2.e vs with
    | false => rw [pl] at e2; cases e2
    | true =>
    rw [pl, if_pos rfl] at e2
    obtain ⟨e', e3, e2⟩ := Option.bind_eq_some_iff.mp e2
    obtain ⟨⟨rt, s6⟩, e4, e2⟩ := Option.bind_eq_some_iff.mp e2
    refine .inr ⟨go, fun H' => ∃ F' s' qs' ad' Γ', Sim g F' s' σ H' ∧ Keep g F1 s1 σ HL F' s' σ H' ∧ Gst g F' s'.e σ H' Γ' ∧ (∀ a o, Γ' a = some o → HL a = none) ∧ Γ' p = some (.lst (qs'.map V.ref)) ∧ (p :: qs').Nodup ∧ Itm g F' Γ' qs' ad' ∧ lcG vs T me (ds.drop (i + 1)) ad' s' = some (qf, sf), fun H' ⟨F', s', qs', ad', Γ', q⟩ => ⟨ds.length - (i + 1), by omega, rfl, hlt, F', s', qs', ad', Γ', q⟩, fun x H3 hy => ?_⟩
    obtain ⟨F3, x3, r3⟩ := yl x H3 hy
    have I3 := I2.ext x3
    have K3 := K2.trans (Keep.ext x3) I3
    have G3 : Gst g F3 s2.e σ H3 Γ := G2.keep (Keep.ext x3)
    have I3w := I3.wipe vs
    refine ⟨F3, _, _, e', I3w, r3, e3, fun σ4 I4 ow fr => ?_⟩
    have hlen : σ4.length = σ.length := by
      have h1 : e'.length = σ4.length := I4.len
      rw [← h1, bindT_len e3, wipeE_length, I3.len]
    have fr' : ∀ j, j ∉ vs → σ4[j]? = σ[j]? := fun j hj => by rw [fr j fun z => hj (hT j z), wipe_out hj]
    refine ⟨wipe_same hlen fr', ?_⟩
    have kb : ∀ {F5 H5 : Hp} {s5 : S g.R.S}, Keep g F3 { s2 with e := e' } σ4 H3 F5 s5 σ4 H5 → Sim g F5 s5 σ4 H5 → Sim g F5 { s5 with e := backE s2.e s5.e vs } σ H5 ∧ Keep g F3 s2 σ H3 F5 { s5 with e := backE s2.e s5.e vs } σ H5 := fun {F5 H5 s5} K5 I5 => by
      have I6 := Sim.back (vs := vs) I3 pl K5.grow I5 hlen fr'
      refine ⟨I6, ⟨fun a u e n nf => K5.heap a u e (fun z => n (ow a z).wipe) nf, K5.grow, fun a u e nt q n => K5.nof a u e nt q fun z => n (ow a z).wipe, fun a z => ?_, K5.there⟩⟩
      rcases K5.own a (z.back pl fr') with z | z
      · exact .inl (ow a z).wipe
      · exact .inr z
    refine ⟨F3, { s2 with e := e' }, true, { s2 with e := e' }, I4, rfl, fun F5 H5 I5 K5 => ?_⟩
    refine iteT ?_
    cases rt with
    | sh _ => cases e2
    | sl _ => cases e2
    | tmp d6 =>
      replace e2 : (if ad.length < sizeLine then lcG vs T me (ds.drop (i + 1)) (ad ++ [d6]) { s6 with e := backE s2.e s6.e vs } else none) = some (qf, sf) := e2
      by_cases hsz : ad.length < sizeLine
      · rw [if_pos hsz] at e2
        refine ⟨F5, { s2 with e := e' }, .tmp d6, s6, I5, e4, fun F7 y H7 I7 K7 w => ?_⟩
        obtain ⟨q, o, rfl, w0, w1, w2, w3, w4, w5⟩ := w
        have K57 := K5.trans K7 I7
        obtain ⟨I8, K8⟩ := kb K57 I7
        have K38 := K3.trans K8 I8
        have G8 : Gst g F7 (backE s2.e s6.e vs) σ H7 Γ := Gst.keep (s' := { s6 with e := backE s2.e s6.e vs }) G3 K8
        have out : ∀ a u, Γ a = some u → a ≠ q := fun a u h z => by
          obtain ⟨I6, K6⟩ := kb K5 I5
          have := (Gst.keep (s' := { s2 with e := backE s2.e e' vs }) G3 K6).at_ a u h
          rw [z, w0] at this; cases this
        have pq : p ≠ q := out p _ gp
        have hqs : ∀ x ∈ qs, x ≠ q := fun x hx => by
          obtain ⟨u, hu⟩ := it2.mem x hx
          exact out x u hu
        have hps : ∀ x ∈ qs, x ≠ p := fun x hx z => by subst z; exact (List.nodup_cons.mp nd2).1 hx
        have hqn : HL q = none := by
          cases z : HL q with
          | none => rfl
          | some u =>
            obtain ⟨o3, z3⟩ := K3.there q u z
            obtain ⟨o5, z5⟩ := K5.there q o3 z3
            rw [w0] at z5; cases z5
        refine ⟨qs.map V.ref, G8.at_ p _ gp, by rw [List.length_map, it2.length]; exact hsz, F7, _, qs ++ [q], ad ++ [d6], upd (upd Γ q o) p (.lst ((qs ++ [q]).map V.ref)), I8.grow (G8.nf p _ gp) (G8.no p _ gp) ft, K38.grow' hp, ?_, ?_, upd_same, ?_, ?_, e2⟩
        · have cases' : ∀ a (u : HO), upd (upd Γ q o) p (.lst ((qs ++ [q]).map V.ref)) a = some u → (a = p ∧ u = .lst ((qs ++ [q]).map V.ref)) ∨ (a ≠ p ∧ a = q ∧ u = o) ∨ (a ≠ p ∧ a ≠ q ∧ Γ a = some u) := fun a u h => by
            by_cases z : a = p
            · subst z; rw [upd_same] at h; cases h; exact .inl ⟨rfl, rfl⟩
            · rw [upd_ne z] at h
              by_cases z2 : a = q
              · subst z2; rw [upd_same] at h; cases h; exact .inr (.inl ⟨z, rfl, rfl⟩)
              · rw [upd_ne z2] at h; exact .inr (.inr ⟨z, z2, h⟩)
          refine ⟨fun a u h => ?_, fun a u h => ?_, fun a u h => ?_, fun a u h => ?_, fun a u h => ?_⟩ <;> rcases cases' a u h with ⟨rfl, rfl⟩ | ⟨z, rfl, rfl⟩ | ⟨z, z2, h⟩
          · rw [upd_same, List.map_append]; rfl
          · rw [upd_ne z]; exact w4
          · rw [upd_ne z]; exact G8.at_ a u h
          · exact fun _ z => nomatch z
          · exact w5.nt
          · exact G8.nt a u h
          · exact G8.nf _ _ gp
          · exact w1
          · exact G8.nf a u h
          · exact G8.no _ _ gp
          · exact fun z => w3 (z.back pl fr')
          · exact G8.no a u h
          · exact ft
          · exact w2
          · exact G8.ft a u h
        · intro a u h
          by_cases z : a = p
          · rw [z]; exact hp
          · rw [upd_ne z] at h
            by_cases z2 : a = q
            · rw [z2]; exact hqn
            · rw [upd_ne z2] at h; exact fr2 a u h
        · rw [← List.cons_append]
          refine List.nodup_append.mpr ⟨nd2, List.pairwise_singleton _ _, fun x hx y hy e => ?_⟩
          rw [List.mem_singleton.mp hy] at e
          rcases List.mem_cons.mp hx with z | z
          · exact pq (z.symm.trans e)
          · exact hqs x z e
        · refine Itm.append (o := o) ?_ w5 (it2.mono (x3.le.trans K57.grow) fun x hx => ?_)
          · rw [upd_ne (Ne.symm pq), upd_same]
          · rw [upd_ne (hps x hx), upd_ne (hqs x hx)]
      · rw [if_neg hsz] at e2; cases e2
  · have e' : i = ds.length := by omega
    subst e'
    rw [List.drop_length] at e2
    cases e2
    refine .inl ⟨it.stop F2 H2 K2.grow I2.sub pr, Sim.unlock I1 K1 l I2 K2 fun H' hk I' K' => k F2 p qs Γ H' ⟨I', K', ⟨fun a o h => hk _ _ (G2.nf a o h) (G2.at_ a o h), G2.nt, G2.nf, G2.no, G2.ft⟩, fun a o h => ?_, gp, nd2, it2⟩⟩
    cases q : H a with
    | none => rfl
    | some u =>
      obtain ⟨o', z⟩ := K1.there a u q
      rw [l.free (fr2 a o h)] at z; cases z
end
end RW
namespace RW
open PySem L2
section
variable {g : G} {X : Cx}
/-! ### rows = [dict(row) for row in ..]; spots = [.. rows[at][dot] ..]; rows[at][dot] = .. -/
def rowPut {R : Type} (i ai di : Nat) (ds : List D) (w : D × S R) : Option (Fl × S R) := match w.2.e[ai]?, w.2.e[di]? with
  | some (some ⟨.int k, false⟩), some (some ⟨.str x, false⟩) => if 0 ≤ k then match ds[k.toNat]? with
      | some (.dct false es) => if es.length < sizeLine then some (.nx, ⟨w.2.e.set i (some ⟨.lst (ds.set k.toNat (.dct false (putE es (.str x) w.1))), false⟩), w.2.r⟩) else none
      | _ => none
    else none
  | _, _ => none
theorem rowPut_inv {R : Type} {i ai di : Nat} {ds : List D} {w : D × S R} {z : Fl × S R} (h : rowPut i ai di ds w = some z) : ∃ (k : Nat) (x : Str) (es : List (D × D)), w.2.e[ai]? = some (some ⟨.int k, false⟩) ∧ w.2.e[di]? = some (some ⟨.str x, false⟩) ∧ ds[k]? = some (.dct false es) ∧ es.length < sizeLine ∧
    z = (.nx, ⟨w.2.e.set i (some ⟨.lst (ds.set k (.dct false (putE es (.str x) w.1))), false⟩), w.2.r⟩) := by
  unfold rowPut at h
  split at h
  · rename_i k x h1 h2
    split at h
    · rename_i hk
      split at h
      · rename_i es h3
        split at h
        · rename_i hl
          cases h
          obtain ⟨n, rfl⟩ := Int.eq_ofNat_of_zero_le hk
          exact ⟨n, x, es, h1, h2, h3, hl, rfl⟩
        · cases h
      · cases h
    · cases h
  · cases h
def mRows {R : Type} (i j ai di : Nat) (vs : List Nat) (mi : M R (List D)) (T : Tg) (me m2 m3 : M R Vr) : MS R := fun s => if i < s.e.length ∧ j < s.e.length ∧ i ≠ j then
    (mLcG vs mi T me s).bind fun p => (m2 ⟨(offE (p.2.e.set i none)).set i (some ⟨.lst p.1, false⟩), p.2.r⟩).bind fun q => match q.1 with
      | .tmp (.lst xs) => if xs.all atomD = true then
          (m3 ⟨(p.2.e.set i none).set j (some ⟨.lst xs, true⟩), q.2.r⟩).bind fun u => (esc (soft u.1) u.2).bind fun w => rowPut i ai di p.1 w
        else none
      | _ => none
    else none
def tRows (g : G) (vs : List Nat) (i : Nat) (mi : M g.R.S (List D)) (T : Tg) (me : M g.R.S Vr) : TS := fun E σ H => ∃ F s sf ds, Sim g F s σ H ∧ mLcG vs mi T me s = some (ds, sf) ∧
  ∀ F' l qs Γ H', GoodL g F s σ H sf ds F' l qs Γ H' → E.nx (σ.set i (some (.ref l))) H'
/-- rows[at], a list and a number -/
def tRow (K : PySem.W.Frag) (i ai : Nat) : TE := fun σ H Q => ∃ p xs k v, σ[i]? = some (some (.ref p)) ∧ H p = some (.lst xs) ∧ σ[ai]? = some (some (.int (k : Nat))) ∧ xs[k]? = some v ∧ Q v H
theorem b_rows {i j ai di : Nat} {S1 S2 S3 : Stmt} {rest : List Stmt} {vs : List Nat} {mi : M g.R.S (List D)} {T : Tg} {me m2 m3 : M g.R.S Vr} {mr : MS g.R.S}
    (h1 : PS X S1 (tRows g vs i mi T me)) (h2 : PS X S2 (tAsg (tM g m2) (gName j))) (h3 : PS X S3 (tAsg (tM g m3) (gSub (tRow X.K i ai) (tVar di) rSetD))) (hr : DB g X rest mr) : DB g X (S1 :: S2 :: S3 :: rest) (mSeq (mRows i j ai di vs mi T me m2 m3) mr) := by
  refine PSs.imp (pss_cons h1 (pss_cons h2 (pss_cons h3 hr))) fun E σ H ⟨F, s, fl, s', I, e, o⟩ => ?_
  unfold mSeq at e
  obtain ⟨⟨f, ss⟩, e0, e⟩ := Option.bind_eq_some_iff.mp e
  unfold mRows at e0
  split at e0
  case isFalse => cases e0
  rename_i hij
  obtain ⟨hil, hjl, hij⟩ := hij
  obtain ⟨⟨ds, s1⟩, e1, e0⟩ := Option.bind_eq_some_iff.mp e0
  obtain ⟨⟨v2, s2⟩, e2, e0⟩ := Option.bind_eq_some_iff.mp e0
  dsimp only at e0 e2
  split at e0
  case h_2 => cases e0
  rename_i xs
  split at e0
  case isFalse => cases e0
  rename_i hat
  obtain ⟨⟨u3, s3⟩, e3, e0⟩ := Option.bind_eq_some_iff.mp e0
  obtain ⟨⟨d3, s4⟩, e4, e0⟩ := Option.bind_eq_some_iff.mp e0
  obtain ⟨k, x, es, ka, kd, kk, hes, ez⟩ := rowPut_inv e0
  cases ez
  have e : mr _ = some (fl, s') := e
  have hsl : s.e.length = σ.length := I.len
  refine ⟨F, s, s1, ds, I, e1, fun F1 l qs Γ H1 ⟨I1, K1, G1, fr, gl, nd, it⟩ => ?_⟩
  -- the list's slot is forgotten
  let σ1 : St := σ.set i (some (.ref l))
  have hs1 : σ1[i]? = some (some (.ref l)) := List.getElem?_set_self (by omega)
  have I1d : Sim g F1 ⟨s1.e.set i none, s1.r⟩ σ1 H1 := I1.drop i _
  have K1d : Keep g F s σ H F1 ⟨s1.e.set i none, s1.r⟩ σ1 H1 := ⟨K1.heap, K1.grow, K1.nof, fun a z => K1.own a (own_drop z), K1.there⟩
  have G1d : Gst g F1 (s1.e.set i none) σ1 H1 Γ := ⟨G1.at_, G1.nt, G1.nf, fun a u h z => G1.no a u h (own_drop z), G1.ft⟩
  generalize hE1 : s1.e.set i none = E1 at *
  -- the spots
  obtain ⟨Fz, Iz, Kz⟩ := I1d.off
  have Gz : Gst g Fz (offE E1) σ1 H1 Γ := Gst.keep (s' := ⟨offE E1, s1.r⟩) G1d Kz
  have Im := Gst.merge (s := ⟨offE E1, s1.r⟩) Gz Iz
  have Iw := Im.setSh (i := i) (d := .lst ds) hs1 (.ref (un_in gl) (.lst (Itm.reps Gz.le (it.mono Kz.grow fun _ _ => rfl))))
  have nown : ∀ a, ¬ Own σ1 ((offE E1).set i (some ⟨.lst ds, false⟩)) a := no_own fun k c h => by
    rcases set_sh h with ⟨_, rfl⟩ | ⟨_, h⟩
    · rfl
    · exact (offE_at h).1
  refine ⟨un Fz Γ, _, _, s2, Iw, e2, fun F2 v H2 I2 K2 w2 => ?_⟩
  obtain ⟨p, ob, rfl, p1, p2, p3, p4, p5, p6⟩ := w2
  cases p6 with
  | lst p6 =>
  rename_i ws
  have hh : ∀ a u, H1 a = some u → ¬ g.R.foot a → H2 a = some u := fun a u h nf => K2.heap a u h (nown a) nf
  let σ2 : St := σ1.set j (some (.ref p))
  have hs2i : σ2[i]? = some (some (.ref l)) := by show (σ1.set j _)[i]? = _; rw [List.getElem?_set_ne (Ne.symm hij)]; exact hs1
  have hs2j : σ2[j]? = some (some (.ref p)) := List.getElem?_set_self (by show j < (σ.set i _).length; rw [List.length_set]; omega)
  have I3a : Sim g F1 ⟨E1, s2.r⟩ σ1 H2 := by
    refine ⟨fun a u h => ?_, I2.at_, I1d.foot, I1d.len, fun n c h => ?_, I1d.apart⟩
    · have nf : ¬ g.R.foot a := fun z => by rw [I1d.foot a z] at h; cases h
      rcases I1d.sub a u h with z | ⟨z, ob, z2⟩
      · exact .inl (hh a u z nf)
      · exact .inr ⟨z, ob, hh a _ z2 nf⟩
    · obtain ⟨v, x1, x2⟩ := I1d.cell n c h
      refine ⟨v, x1, ?_⟩
      rcases x2 with x2 | ⟨x2, p', o', b1, b2, b3, b4, b5⟩
      · exact .inl x2
      · exact .inr ⟨x2, p', o', b1, b2, b3, hh _ _ b4 b3, b5⟩
  have np1 : ¬ Own σ1 E1 p := fun z => by
    obtain ⟨o', y, _⟩ := (I1d.own_at z).2.2
    rw [p1] at y; cases y
  have F1p : F1 p = none := I1d.sub.free p1
  have I3 : Sim g F1 ⟨E1.set j (some ⟨.lst xs, true⟩), s2.r⟩ σ2 H2 := by
    have := (I3a.drop j (some (.ref p))).setOwn (i := j) (d := .lst xs) (p := p) (o := .lst ws) hs2j F1p p3 (fun z => np1 (own_drop z)) p5 (.lst (atoms_any _ _ hat p6))
    have q : (E1.set j none).set j (some ⟨.lst xs, true⟩) = E1.set j (some ⟨.lst xs, true⟩) := List.set_set ..
    rw [← q]; exact this
  have Hp : H p = none := by
    cases z : H p with
    | none => rfl
    | some u =>
      obtain ⟨o', y⟩ := K1d.there p u z
      rw [p1] at y; cases y
  have own3 : ∀ a, Own σ2 (E1.set j (some ⟨.lst xs, true⟩)) a → a = p ∨ Own σ1 E1 a := fun a z => by
    have q : (E1.set j none).set j (some ⟨.lst xs, true⟩) = E1.set j (some ⟨.lst xs, true⟩) := List.set_set ..
    rw [← q] at z
    rcases own_set hs2j z with z | z
    · exact .inl z
    · exact .inr (own_drop z)
  have K3 : Keep g F s σ H F1 ⟨E1.set j (some ⟨.lst xs, true⟩), s2.r⟩ σ2 H2 := by
    refine ⟨fun a u h n nf => hh a u (K1d.heap a u h n nf) nf, K1d.grow, K1d.nof, fun a z => ?_, fun a u h => ?_⟩
    · rcases own3 a z with rfl | z
      · exact .inr Hp
      · exact K1d.own a z
    · obtain ⟨u1, h1⟩ := K1d.there a u h
      exact K2.there a u1 h1
  have G3 : Gst g F1 (E1.set j (some ⟨.lst xs, true⟩)) σ2 H2 Γ := by
    refine ⟨fun a u h => hh a u (G1d.at_ a u h) (G1d.ft a u h), G1d.nt, G1d.nf, fun a u h z => ?_, G1d.ft⟩
    rcases own3 a z with rfl | z
    · rw [G1d.at_ _ u h] at p1; cases p1
    · exact G1d.no a u h z
  -- the store
  refine tM_esc I3 e3 e4 fun F4 v H4 I4 K4 r4 => ?_
  have K34 := K3.trans K4 I4
  have G4 : Gst g F4 s4.e σ2 H4 Γ := Gst.keep (s := ⟨E1.set j (some ⟨.lst xs, true⟩), s2.r⟩) G3 K4
  obtain ⟨va, a1, a2⟩ := I4.cell ai _ ka
  obtain ⟨vd, b1, b2⟩ := I4.cell di _ kd
  have ra : Rep g F4 va (.int k) := by
    rcases a2 with ⟨_, z⟩ | ⟨z, _⟩
    · exact z
    · cases z
  have rd : Rep g F4 vd (.str x) := by
    rcases b2 with ⟨_, z⟩ | ⟨z, _⟩
    · exact z
    · cases z
  obtain rfl := (show Pk g F4 H4 va (.int k) from .inl ra).int
  obtain rfl := (show Pk g F4 H4 vd (.str x) from .inl rd).str
  obtain ⟨q, oq, hq1, hq2, hq3⟩ := it.at kk
  cases hq3 with
  | dK hq3 =>
  rename_i kvs
  have hlq : l ≠ q := fun z => (List.nodup_cons.mp nd).1 (by rw [z]; exact List.mem_of_getElem? hq1)
  have rk : RepK g F4 kvs es := hq3.mono (K4.grow)
  have rk' : RepK g F4 (putK kvs (.inr x) v) (putE es (.str x) d3) := rk.put (.inr x) r4
  let o' : HO := .dK (putK kvs (.inr x) v)
  have it4 : Itm g F4 (upd Γ q o') qs (ds.set k (.dct false (putE es (.str x) d3))) := Itm.set (.dK rk') (it.mono K4.grow fun _ _ => rfl) (List.nodup_cons.mp nd).2 hq1
  have fr' : ∀ a u, upd Γ q o' a = some u → H a = none := fun a u h => by
    by_cases z : a = q
    · rw [z]; exact fr q _ hq2
    · rw [upd_ne z] at h; exact fr a u h
  have G5 : Gst g F4 s4.e σ2 (upd H4 q o') (upd Γ q o') := by
    have dom : ∀ a u, upd Γ q o' a = some u → ∃ u', Γ a = some u' := fun a u h => by
      by_cases z : a = q
      · rw [z]; exact ⟨_, hq2⟩
      · rw [upd_ne z] at h; exact ⟨u, h⟩
    refine ⟨fun a u h => ?_, fun a u h => ?_, fun a u h => ?_, fun a u h => ?_, fun a u h => ?_⟩
    · by_cases z : a = q
      · subst z; rw [upd_same] at h ⊢; exact h
      · rw [upd_ne z] at h ⊢; exact G4.at_ a u h
    · by_cases z : a = q
      · subst z; rw [upd_same] at h; cases h; exact fun _ z => nomatch z
      · rw [upd_ne z] at h; exact G4.nt a u h
    · obtain ⟨u', h'⟩ := dom a u h; exact G4.nf a u' h'
    · obtain ⟨u', h'⟩ := dom a u h; exact G4.no a u' h'
    · obtain ⟨u', h'⟩ := dom a u h; exact G4.ft a u' h'
  have I5 := I4.grow (o := o') (G4.nf q _ hq2) (G4.no q _ hq2) (G4.ft q _ hq2)
  have I6 := G5.merge I5
  have K6 := (K34.upd' (o := o') (.inl (fr q _ hq2))).merge fr' G5.le
  have I7 := I6.setSh (i := i) (d := .lst (ds.set k (.dct false (putE es (.str x) d3)))) hs2i (.ref (un_in (by rw [upd_ne hlq]; exact gl)) (.lst (Itm.reps G5.le it4)))
  have K7 : Keep g F s σ H (un F4 (upd Γ q o')) ⟨s4.e.set i (some ⟨.lst (ds.set k (.dct false (putE es (.str x) d3))), false⟩), s4.r⟩ σ2 (upd H4 q o') := ⟨K6.heap, K6.grow, K6.nof, fun a z => K6.own a (own_sh z), K6.there⟩
  refine ⟨l, qs.map V.ref, k, .ref q, hs2i, G4.at_ l _ gl, a1, by rw [List.getElem?_map, hq1]; rfl, .str x, b1, q, upd H4 q o', rfl, DPut.k (k := .inr x) (G4.at_ q _ hq2) (by rw [rk.length]; exact hes), ?_⟩
  exact ⟨_, _, fl, s', I7, e, o.base K7⟩
theorem pe_row {a b : Expr} {pos : Pos} {i ai : Nat} (ha : PE X a (tVar i)) (hb : PE X b (tVar ai)) (hs : PlainIx b := by intro _ _; rfl) : PE X (.Subscript a b pos) (tRow X.K i ai) :=
  PE.imp (pe_ix ix_seq ha hb hs) fun σ H Q ⟨p, xs, k, v, h1, h2, h3, h4, q⟩ => ⟨.ref p, h1, .int (k : Nat), h3, .inl ⟨p, xs, k, v, rfl, rfl, SqL.of h2, (by
    have hk := (List.getElem?_eq_some_iff.mp h4).1
    have hx := (List.getElem?_eq_some_iff.mp h4).2
    unfold atI ixN
    rw [if_pos (by omega), if_pos (by omega)]
    simpa using h4), q⟩⟩
theorem ps_spots {i : Nat} {y : Str} {py : Pos} {elt tg iter : Expr} {ifs : List Expr} {scope : Scope} {pos spos : Pos} {mi : M g.R.S (List D)} {T : Tg} {mt me : M g.R.S Vr} {k : Nat} (own : List (Str × Nat)) (o : XO g k X) (hi : DI g X tg iter mi) (ok : BlkOk X.N X.env.scope scope own)
    (hg : ∀ (s : Shared) (H : Hp) (C : Addr) (cl : List (Str × Addr)) (fp : List Addr), PG (X.blk s H scope (compEnvC scope cl C X.env) fp) tg (tG g T)) (ht : ∀ (s : Shared) (H : Hp) (C : Addr) (cl : List (Str × Addr)) (fp : List Addr), DTs g (X.blk s H scope (compEnvC scope cl C X.env) fp) ifs mt)
    (he : ∀ (s : Shared) (H : Hp) (C : Addr) (cl : List (Str × Addr)) (fp : List Addr), DE g (X.blk s H scope (compEnvC scope cl C X.env) fp) elt me)
    (hsw : swapsWith (.ListComp elt [⟨tg, iter, ifs, 0⟩] scope pos) (some (.Name y py)) spos.line X.env = pure true)
    (hT : ∀ j ∈ tSlots T, j ∈ own.map (·.2) := by decide) (hs : ∀ x, foldedSetIterable iter X.env x = pure x := by intro _; rfl) (hy : X.N[i]? = some y := by rfl) (hyl : X.env.scope.names.lookup y = some .local := by rfl) :
    PS X (.Assign [.Name y py] (.ListComp elt [⟨tg, iter, ifs, 0⟩] scope pos) spos) (tAsg (tM g (mLc (own.map (·.2)) mi T mt me)) (gName i)) :=
  PS.imp (ps_un (ps_setLc (own := own) o.calm o.nd hy hyl hsw hi ok hg ht he hs)) fun E σ H h => tLc_of (Q := fun v H' => E.nx (σ.set i (some v)) H') hT h
/-! ### found[key] = dict(..); found[key][end] = .. -/
def mPutP {R : Type} (f di : Nat) (key : Str) (m4 m5 : M R Vr) : MS R := fun s => (m4 s).bind fun p => match p.1, p.2.e[f]? with
  | .tmp (.dct false es), some (some ⟨.dct false fs, true⟩) => (m5 ⟨p.2.e.set f none, p.2.r⟩).bind fun q => (esc (soft q.1) q.2).bind fun w => match w.2.e[di]? with
    | some (some ⟨.str x, false⟩) => if es.length < sizeLine ∧ fs.length < sizeLine then some (.nx, ⟨w.2.e.set f (some ⟨.dct false (putE fs (.str key) (.dct false (putE es (.str x) w.1))), true⟩), w.2.r⟩) else none
    | _ => none
  | _, _ => none
theorem valV_put (key : Key) (v : V) : ∀ kvs : List (Key × V), valV (putK kvs key v) key = some v := by
  have h1 : ∀ kvs : List (Key × V), (kvs.any fun kv => decide (kv.1 = key)) = true → valV (kvs.map fun kv => if kv.1 = key then (kv.1, v) else kv) key = some v := by
    intro kvs
    induction kvs with
    | nil => intro h; cases h
    | cons kv kvs ih =>
      intro h
      rw [List.map_cons]
      by_cases e : kv.1 = key
      · rw [if_pos e]; exact valV_pos (p := (kv.1, v)) e
      · rw [if_neg e, valV_neg (p := kv) e]
        refine ih ?_
        rw [List.any_cons, decide_eq_false e, Bool.false_or] at h; exact h
  have h2 : ∀ kvs : List (Key × V), (kvs.any fun kv => decide (kv.1 = key)) = false → valV (kvs ++ [(key, v)]) key = some v := by
    intro kvs
    induction kvs with
    | nil => intro _; exact valV_pos (p := (key, v)) rfl
    | cons kv kvs ih =>
      intro h
      rw [List.any_cons, Bool.or_eq_false_iff] at h
      rw [List.cons_append, valV_neg (p := kv) (of_decide_eq_false h.1)]
      exact ih h.2
  intro kvs
  unfold putK
  split
  · rename_i h; exact h1 kvs h
  · rename_i h
    refine h2 kvs ?_
    cases z : kvs.any fun kv => decide (kv.1 = key) with
    | false => rfl
    | true => exact (h z).elim
theorem b_putP {f di : Nat} {key : Str} {S4 S5 : Stmt} {rest : List Stmt} {m4 m5 : M g.R.S Vr} {mr : MS g.R.S}
    (h4 : PS X S4 (tAsg (tM g m4) (gSub (tVar f) (tC (.str key)) rSetD))) (h5 : PS X S5 (tAsg (tM g m5) (gSub (tDGet (tVar f) (tC (.str key))) (tVar di) rSetD))) (hr : DB g X rest mr) : DB g X (S4 :: S5 :: rest) (mSeq (mPutP f di key m4 m5) mr) := by
  refine PSs.imp (pss_cons h4 (pss_cons h5 hr)) fun E σ H ⟨F, s, fl, s', I, e, o⟩ => ?_
  unfold mSeq at e
  obtain ⟨⟨ff, ss⟩, e0, e⟩ := Option.bind_eq_some_iff.mp e
  unfold mPutP at e0
  obtain ⟨⟨v4, s1⟩, e1, e0⟩ := Option.bind_eq_some_iff.mp e0
  dsimp only at e0
  split at e0
  case h_2 => cases e0
  rename_i es fs hf
  obtain ⟨⟨u5, s2⟩, e2, e0⟩ := Option.bind_eq_some_iff.mp e0
  obtain ⟨⟨d5, s3⟩, e3, e0⟩ := Option.bind_eq_some_iff.mp e0
  dsimp only at e0
  split at e0
  case h_2 => cases e0
  rename_i x hx
  split at e0
  case isFalse => cases e0
  rename_i hlen
  cases e0
  have e : mr _ = some (fl, s') := e
  refine ⟨F, s, _, s1, I, e1, fun F1 v H1 I1 K1 w => ?_⟩
  obtain ⟨q, oq, rfl, w0, w1, w2, w3, w4, w5⟩ := w
  cases w5 with
  | dK w5 =>
  rename_i kvs
  obtain ⟨vf, f1, f2⟩ := I1.cell f _ hf
  rcases f2 with ⟨z, _⟩ | ⟨_, p0, o0, rfl, b2, b3, b4, b5⟩
  · cases z
  cases b5 with
  | dK b5 =>
  rename_i kfs
  have own0 : Own σ s1.e p0 := ⟨f, _, hf, rfl, f1⟩
  have hpq : p0 ≠ q := fun z => w3 (by rw [← z]; exact own0)
  let o1 : HO := .dK (putK kfs (.inr key) (.ref q))
  have no0 : ¬ Own σ (s1.e.set f none) p0 := fun ⟨k, c, h1, h2, h3⟩ => by
    obtain ⟨n, h1⟩ := set_none h1
    exact I1.apart f k _ c p0 n hf h1 rfl h2 f1 h3
  have I2 : Sim g F1 ⟨s1.e.set f none, s1.r⟩ σ (upd H1 p0 o1) := (I1.dropE f).grow b2 no0 b3
  have h0 : H p0 = none ∨ Own σ s.e p0 := (K1.own p0 own0).symm
  have K1u := K1.upd' (o := o1) h0
  have K2 : Keep g F s σ H F1 ⟨s1.e.set f none, s1.r⟩ σ (upd H1 p0 o1) := ⟨K1u.heap, K1u.grow, K1u.nof, fun a z => K1u.own a (own_dropE z), K1u.there⟩
  let Γ : Hp := fun a => if a = p0 then some o1 else if a = q then some (.dK kvs) else none
  have Γcase : ∀ a u, Γ a = some u → (a = p0 ∧ u = o1) ∨ (a = q ∧ u = .dK kvs) := fun a u h => by
    have h : (if a = p0 then some o1 else if a = q then some (.dK kvs) else none) = some u := h
    split at h
    · rename_i z; cases h; exact .inl ⟨z, rfl⟩
    · split at h
      · rename_i z; cases h; exact .inr ⟨z, rfl⟩
      · cases h
  have G2 : Gst g F1 (s1.e.set f none) σ (upd H1 p0 o1) Γ := by
    refine ⟨fun a u h => ?_, fun a u h => ?_, fun a u h => ?_, fun a u h => ?_, fun a u h => ?_⟩ <;> rcases Γcase a u h with ⟨rfl, rfl⟩ | ⟨rfl, rfl⟩
    · exact upd_same
    · rw [upd_ne (Ne.symm hpq)]; exact w4
    · exact fun _ z => nomatch z
    · exact fun _ z => nomatch z
    · exact b2
    · exact w1
    · exact no0
    · exact fun z => w3 (own_dropE z)
    · exact b3
    · exact w2
  have gp0 : Γ p0 = some o1 := if_pos rfl
  have gq : Γ q = some (.dK kvs) := by show (if q = p0 then _ else if q = q then _ else _) = _; rw [if_neg (Ne.symm hpq), if_pos rfl]
  refine ⟨.ref p0, f1, p0, upd H1 p0 o1, rfl, DPut.k (k := .inr key) b4 (by rw [b5.length]; exact hlen.2), ?_⟩
  refine tM_esc I2 e2 e3 fun F3 v5 H3 I3 K3 r5 => ?_
  have K23 := K2.trans K3 I3
  have G3 : Gst g F3 s3.e σ H3 Γ := Gst.keep (s := ⟨s1.e.set f none, s1.r⟩) G2 K3
  obtain ⟨vd, d1, d2⟩ := I3.cell di _ hx
  have rd : Rep g F3 vd (.str x) := by
    rcases d2 with ⟨_, z⟩ | ⟨z, _⟩
    · exact z
    · cases z
  obtain rfl := (show Pk g F3 H3 vd (.str x) from .inl rd).str
  have rk : RepK g F3 kvs es := w5.mono K3.grow
  have rk' : RepK g F3 (putK kvs (.inr x) v5) (putE es (.str x) d5) := rk.put (.inr x) r5
  let o2 : HO := .dK (putK kvs (.inr x) v5)
  let Γ1 : Hp := fun a => if a = q then some o2 else none
  have I4 := I3.grow (o := o2) (G3.nf q _ gq) (G3.no q _ gq) (G3.ft q _ gq)
  have Γ1case : ∀ a u, Γ1 a = some u → a = q ∧ u = o2 := fun a u h => by
    have h : (if a = q then some o2 else none) = some u := h
    split at h
    · rename_i z; cases h; exact ⟨z, rfl⟩
    · cases h
  have G4 : Gst g F3 s3.e σ (upd H3 q o2) Γ1 := by
    refine ⟨fun a u h => ?_, fun a u h => ?_, fun a u h => ?_, fun a u h => ?_, fun a u h => ?_⟩ <;> obtain ⟨rfl, rfl⟩ := Γ1case a u h
    · exact upd_same
    · exact fun _ z => nomatch z
    · exact G3.nf _ _ gq
    · exact G3.no _ _ gq
    · exact G3.ft _ _ gq
  have I5 := G4.merge I4
  have K5 := (K23.upd' (p := q) (o := o2) (.inl w0)).merge (Γ := Γ1) (fun a u h => by rw [(Γ1case a u h).1]; exact w0) G4.le
  have un0 : un F3 Γ1 p0 = none := by
    rw [un_out (show (if p0 = q then some o2 else none) = none from if_neg hpq)]
    exact G3.nf p0 _ gp0
  have rf : RepK g (un F3 Γ1) (putK kfs (.inr key) (.ref q)) (putE fs (.str key) (.dct false (putE es (.str x) d5))) :=
    (b5.mono (K3.grow.trans G4.le)).put (.inr key) (.ref (un_in (if_pos rfl)) (.dK (rk'.mono G4.le)))
  have I6 := I5.setOwn (i := f) (d := .dct false (putE fs (.str key) (.dct false (putE es (.str x) d5)))) f1 un0 b3 (G3.no p0 _ gp0) (by rw [upd_ne hpq]; exact G3.at_ p0 _ gp0) (.dK rf)
  have K6 : Keep g F s σ H (un F3 Γ1) ⟨s3.e.set f (some ⟨.dct false (putE fs (.str key) (.dct false (putE es (.str x) d5))), true⟩), s3.r⟩ σ (upd H3 q o2) := ⟨K5.heap, K5.grow, K5.nof, fun a z => by
    rcases own_set f1 z with rfl | z
    · exact h0.symm
    · exact K5.own a z, K5.there⟩
  refine ⟨.ref p0, f1, p0, .ref q, rfl, ?_, .str x, d1, q, upd H3 q o2, rfl, DPut.k (k := .inr x) (G3.at_ q _ gq) (by rw [rk.length]; exact hlen.1), ?_⟩
  · have := DGet.k (k := .inr key) (G3.at_ p0 _ gp0)
    rw [valV_put] at this
    exact this
  · exact ⟨_, _, fl, s', I6, e, o.base K6⟩
end
end RW
namespace RW
open PySem L2
section
variable {g : G} {X : Cx}
theorem Gst.add {F H Γ : Hp} {e : List (Option Cell)} {σ : St} {q : Addr} {o : HO} (G : Gst g F e σ H Γ) (hq : H q = some o) (nt : NT o) (nf : F q = none) (no : ¬ Own σ e q) (ft : ¬ g.R.foot q) : Gst g F e σ H (upd Γ q o) := by
  refine ⟨fun a u h => ?_, fun a u h => ?_, fun a u h => ?_, fun a u h => ?_, fun a u h => ?_⟩ <;>
  · by_cases z : a = q
    · subst z; rw [upd_same] at h; cases h; assumption
    · rw [upd_ne z] at h
      first | exact G.at_ a u h | exact G.nt a u h | exact G.nf a u h | exact G.no a u h | exact G.ft a u h
theorem Gst.chg {F H Γ : Hp} {e : List (Option Cell)} {σ : St} {q : Addr} {o0 o : HO} (G : Gst g F e σ H Γ) (gq : Γ q = some o0) (nt : NT o) : Gst g F e σ (upd H q o) (upd Γ q o) := by
  have dom : ∀ a u, upd Γ q o a = some u → ∃ u', Γ a = some u' := fun a u h => by
    by_cases z : a = q
    · rw [z]; exact ⟨_, gq⟩
    · rw [upd_ne z] at h; exact ⟨u, h⟩
  refine ⟨fun a u h => ?_, fun a u h => ?_, fun a u h => ?_, fun a u h => ?_, fun a u h => ?_⟩
  · by_cases z : a = q
    · subst z; rw [upd_same] at h ⊢; exact h
    · rw [upd_ne z] at h ⊢; exact G.at_ a u h
  · by_cases z : a = q
    · subst z; rw [upd_same] at h; cases h; exact nt
    · rw [upd_ne z] at h; exact G.nt a u h
  · obtain ⟨u', h'⟩ := dom a u h; exact G.nf a u' h'
  · obtain ⟨u', h'⟩ := dom a u h; exact G.no a u' h'
  · obtain ⟨u', h'⟩ := dom a u h; exact G.ft a u' h'
/-! ### {k: (f(..), f(..)) for ..}: a new dict of pairs of new dicts -/
inductive ItB (g : G) (F Γ : Hp) : List (Key × V) → List Addr → List (D × D) → Prop
  | nil : ItB g F Γ [] [] []
  | cons {k : Key} {p a b : Addr} {oa ob : HO} {da db : D} {kvs : List (Key × V)} {ads : List Addr} {es : List (D × D)} : F p = some (.tup [.ref a, .ref b]) → Γ a = some oa → RepO g F oa da → Γ b = some ob → RepO g F ob db → ItB g F Γ kvs ads es → ItB g F Γ ((k, .ref p) :: kvs) (a :: b :: ads) ((keyD k, .tup [da, db]) :: es)
theorem ItB.mono {F F' Γ Γ' : Hp} (le : Le F F') : ∀ {kvs : List (Key × V)} {ads : List Addr} {es : List (D × D)}, ItB g F Γ kvs ads es → (∀ q ∈ ads, Γ' q = Γ q) → ItB g F' Γ' kvs ads es
  | _, _, _, .nil, _ => .nil
  | _, _, _, .cons h1 h2 h3 h4 h5 t, h => .cons (le _ _ h1) (by rw [h _ (by simp)]; exact h2) (h3.mono le) (by rw [h _ (by simp)]; exact h4) (h5.mono le) (t.mono le fun q hq => h q (by simp [hq]))
theorem ItB.append {F Γ : Hp} {k : Key} {p a b : Addr} {oa ob : HO} {da db : D} (h1 : F p = some (.tup [.ref a, .ref b])) (h2 : Γ a = some oa) (h3 : RepO g F oa da) (h4 : Γ b = some ob) (h5 : RepO g F ob db) : ∀ {kvs : List (Key × V)} {ads : List Addr} {es : List (D × D)}, ItB g F Γ kvs ads es → ItB g F Γ (kvs ++ [(k, .ref p)]) (ads ++ [a, b]) (es ++ [(keyD k, .tup [da, db])])
  | _, _, _, .nil => .cons h1 h2 h3 h4 h5 .nil
  | _, _, _, .cons a1 a2 a3 a4 a5 t => .cons a1 a2 a3 a4 a5 (t.append h1 h2 h3 h4 h5)
theorem ItB.mem {F Γ : Hp} : ∀ {kvs : List (Key × V)} {ads : List Addr} {es : List (D × D)}, ItB g F Γ kvs ads es → ∀ q ∈ ads, ∃ o, Γ q = some o
  | _, _, _, .nil, q, h => by cases h
  | _, _, _, .cons _ h2 _ h4 _ t, q, h => by
    rcases List.mem_cons.mp h with rfl | h
    · exact ⟨_, h2⟩
    · rcases List.mem_cons.mp h with rfl | h
      · exact ⟨_, h4⟩
      · exact t.mem q h
theorem ItB.length {F Γ : Hp} : ∀ {kvs : List (Key × V)} {ads : List Addr} {es : List (D × D)}, ItB g F Γ kvs ads es → kvs.length = es.length
  | _, _, _, .nil => rfl
  | _, _, _, .cons _ _ _ _ _ t => by rw [List.length_cons, List.length_cons, t.length]
theorem ItB.any {F Γ : Hp} (key : Key) : ∀ {kvs : List (Key × V)} {ads : List Addr} {es : List (D × D)}, ItB g F Γ kvs ads es → (es.any fun p => keq p.1 (keyD key)) = kvs.any fun kv => decide (kv.1 = key)
  | _, _, _, .nil => rfl
  | _, _, _, .cons _ _ _ _ _ t => by simp only [List.any_cons, keq_key, t.any key]
theorem ItB.reps {F Γ : Hp} (le : Le F (un F Γ)) : ∀ {kvs : List (Key × V)} {ads : List Addr} {es : List (D × D)}, ItB g F Γ kvs ads es → RepK g (un F Γ) kvs es
  | _, _, _, .nil => .nil
  | _, _, _, .cons h1 h2 h3 h4 h5 t => .cons (.tup (le _ _ h1) (.cons (.ref (un_in h2) (h3.mono le)) (.cons (.ref (un_in h4) (h5.mono le)) .nil))) (t.reps le)
def pairPut (b : Bool) (nd : Str) (d : D) : D → Option D
  | .tup [.dct false e0, .dct false e1] => if e0.length < sizeLine ∧ e1.length < sizeLine then some (if b = true then .tup [.dct false e0, .dct false (putE e1 (.str nd) d)] else .tup [.dct false (putE e0 (.str nd) d), .dct false e1]) else none
  | _ => none
theorem pairPut_inv {b : Bool} {nd : Str} {d v v' : D} (h : pairPut b nd d v = some v') : ∃ e0 e1, v = .tup [.dct false e0, .dct false e1] ∧ (e0.length < sizeLine ∧ e1.length < sizeLine) ∧ v' = if b = true then .tup [.dct false e0, .dct false (putE e1 (.str nd) d)] else .tup [.dct false (putE e0 (.str nd) d), .dct false e1] := by
  unfold pairPut at h
  split at h
  · rename_i e0 e1
    split at h
    · rename_i hl; cases h; exact ⟨e0, e1, rfl, hl, rfl⟩
    · cases h
  · cases h
def tabPut (x : Str) (b : Bool) (nd : Str) (d : D) : List (D × D) → Option (List (D × D))
  | [] => none
  | (k, v) :: r => if keq k (.str x) = true then (pairPut b nd d v).map fun v' => (k, v') :: r else (tabPut x b nd d r).map fun r' => (k, v) :: r'
theorem ItB.put {F Γ : Hp} {x nd : Str} {b : Bool} {v : V} {d : D} (hv : Rep g F v d) : ∀ {kvs : List (Key × V)} {ads : List Addr} {es es' : List (D × D)}, ItB g F Γ kvs ads es → ads.Nodup → tabPut x b nd d es = some es' →
    ∃ p a0 a1 q kq, valV kvs (.inr x) = some (.ref p) ∧ F p = some (.tup [.ref a0, .ref a1]) ∧ q = (if b = true then a1 else a0) ∧ q ∈ ads ∧ Γ q = some (.dK kq) ∧ kq.length < sizeLine ∧ ItB g F (upd Γ q (.dK (putK kq (.inr nd) v))) kvs ads es'
  | _, _, _, _, .nil, _, e => by cases e
  | _, _, _, es', @ItB.cons _ _ _ k p a a1 oa ob da db kvs ads es h1 h2 h3 h4 h5 t, n, e => by
    rw [tabPut] at e
    have n1 := (List.nodup_cons.mp n).1
    have n2 := (List.nodup_cons.mp (List.nodup_cons.mp n).2).1
    have n3 := (List.nodup_cons.mp (List.nodup_cons.mp n).2).2
    have hab : a ≠ a1 := fun z => n1 (by rw [z]; exact List.mem_cons_self)
    have hk : keq (keyD k) (.str x) = decide (k = .inr x) := keq_key k (.inr x)
    rw [hk] at e
    by_cases ek : k = .inr x
    · rw [if_pos (by rw [decide_eq_true ek])] at e
      obtain ⟨v', e2, rfl⟩ := Option.map_eq_some_iff.mp e
      obtain ⟨e0, e1, heq, hl, rfl⟩ := pairPut_inv e2
      cases heq
      cases h3 with
      | dK h3 =>
      cases h5 with
      | dK h5 =>
      rename_i kv0 kv1
      have hval : valV ((k, V.ref p) :: kvs) (.inr x) = some (.ref p) := valV_pos (p := (k, V.ref p)) ek
      cases b with
      | true =>
        refine ⟨p, a, a1, a1, kv1, hval, h1, rfl, by simp, h4, by rw [h5.length]; exact hl.2, ?_⟩
        refine .cons h1 (by rw [upd_ne hab]; exact h2) (.dK h3) upd_same (.dK (h5.put (.inr nd) hv)) (t.mono (Le.refl _) fun q hq => upd_ne fun z => n2 (by rw [← z]; exact hq))
      | false =>
        refine ⟨p, a, a1, a, kv0, hval, h1, rfl, by simp, h2, by rw [h3.length]; exact hl.1, ?_⟩
        refine .cons h1 upd_same (.dK (h3.put (.inr nd) hv)) (by rw [upd_ne (Ne.symm hab)]; exact h4) (.dK h5) (t.mono (Le.refl _) fun q hq => upd_ne fun z => n1 (by rw [← z]; exact List.mem_cons_of_mem _ hq))
    · rw [if_neg (by rw [decide_eq_false ek]; exact Bool.false_ne_true)] at e
      obtain ⟨r', e1, rfl⟩ := Option.map_eq_some_iff.mp e
      obtain ⟨p', c0, c1, q, kq, g1, g2, g3, g4, g5, g6, g7⟩ := t.put hv n3 e1
      refine ⟨p', c0, c1, q, kq, by rw [valV_neg (p := (k, V.ref p)) ek]; exact g1, g2, g3, by simp [g4], g5, g6, ?_⟩
      refine .cons h1 ?_ h3 ?_ h5 g7
      · rw [upd_ne fun z => n1 (by rw [z]; exact List.mem_cons_of_mem _ g4)]; exact h2
      · rw [upd_ne fun z => n2 (by rw [z]; exact g4)]; exact h4
def dcG {R : Type} (vs : List Nat) (T : Tg) (mk m0 m1 : M R Vr) : List D → List (D × D) → M R (List (D × D))
  | [], acc => fun s => some (acc, s)
  | d :: ds, acc => fun s => if plainAt s.e vs then (bindT T d (wipeE s.e vs)).bind fun e' => (mk { s with e := e' }).bind fun q => (esc (soft q.1) q.2).bind fun z => (kOf z.1).bind fun key => (m0 z.2).bind fun q0 => (m1 q0.2).bind fun q1 => match q0.1, q1.1 with
      | .tmp d0, .tmp d1 => if acc.length < sizeLine ∧ (acc.any fun p => keq p.1 (keyD key)) = false then dcG vs T mk m0 m1 ds (acc ++ [(keyD key, .tup [d0, d1])]) { q1.2 with e := backE s.e q1.2.e vs } else none
      | _, _ => none
    else none
def mDcG {R : Type} (vs : List Nat) (mi : M R (List D)) (T : Tg) (mk m0 m1 : M R Vr) : M R (List (D × D)) := fun s => (mi s).bind fun p => dcG vs T mk m0 m1 p.1 [] p.2
def GoodB (g : G) (F : Hp) (s : S g.R.S) (σ : St) (H : Hp) (sf : S g.R.S) (es : List (D × D)) (F' : Hp) (t : Addr) (kvs : List (Key × V)) (ads : List Addr) (Γ H' : Hp) : Prop :=
  Sim g F' sf σ H' ∧ Keep g F s σ H F' sf σ H' ∧ Gst g F' sf.e σ H' Γ ∧ (∀ a o, Γ a = some o → H a = none) ∧ Γ t = some (.dK kvs) ∧ (t :: ads).Nodup ∧ ItB g F' Γ kvs ads es
def tPair (ta tb : TE) : TE := fun σ H Q => ta σ H fun x H1 => tb σ H1 fun y H2 => ∀ p, H2 p = none → Q (.ref p) (upd H2 p (.tup [x, y]))
theorem pe_pair {a b : Expr} {x1} {pos : Pos} {ta tb : TE} (ha : PE X a ta) (hb : PE X b tb) (h1 : starEach [a, b] X.env = (false, eval a X.env) :: starEach [b] X.env := by rfl) (h2 : starEach [b] X.env = (false, eval b X.env) :: starEach [] X.env := by rfl) : PE X (.Tuple [a, b] x1 pos) (tPair ta tb) := by
  refine ⟨fun pins s σ H Q I hq => ?_⟩
  refine wpAny_Tuple_spliced (thn ((pa_cons ha (pa_cons hb pa_nil h2) h1).run pos pins s σ H (fun vs H2 => match vs with
    | [x, y] => ∀ p, H2 p = none → Q (.ref p) (upd H2 p (.tup [x, y]))
    | _ => False) I hq) fun us s1 ⟨xs, H1, I1, r, q⟩ => ?_)
  match xs, r, q with
  | [x, y], r, q =>
    have hl := r.length
    have hz : (2 : Nat) ≤ sizeLine := by unfold sizeLine; omega
    refine ⟨by rw [← hl]; exact hz, ?_⟩
    have hf : H1 s1.heap.objs.size = none := I1.hok.fresh (Nat.le_refl _)
    refine ⟨.ref s1.heap.objs.size, upd H1 s1.heap.objs.size (.tup [x, y]), I1.laid (t' := s1.toks) (fun b u e => Heap.get?_push_of_some _ e) (Nat.le_refl _) ?_, rfl, q _ hf⟩
    exact ⟨hz, us, r, ⟨_, Heap.get?_push_size _ rfl, rfl, _, rfl⟩⟩
theorem gst_nil {F H : Hp} {e : List (Option Cell)} {σ : St} : Gst g F e σ H (fun _ => none) :=
  ⟨(fun _ _ h => by cases h), (fun _ _ h => by cases h), (fun _ _ h => by cases h), (fun _ _ h => by cases h), (fun _ _ h => by cases h)⟩
theorem tDcG_of {vs : List Nat} {mi : M g.R.S (List D)} {T : Tg} {mk m0 m1 : M g.R.S Vr} {σ : St} {H : Hp} {Q : VK} (hT : ∀ j ∈ tSlots T, j ∈ vs) {F : Hp} {s sf : S g.R.S} {qf : List (D × D)} (I : Sim g F s σ H) (e : mDcG vs mi T mk m0 m1 s = some (qf, sf))
    (k : ∀ F' t kvs ads Γ H', GoodB g F s σ H sf qf F' t kvs ads Γ H' → Q (.ref t) H') : tDc (tI g X mi) (tG g T) (tMB g (mC (.bl true))) (tM g mk) (tPair (tM g m0) (tM g m1)) vs σ H (fun v H' => Ul X (Q v) H') := by
  unfold mDcG at e
  obtain ⟨⟨ds, s1⟩, e1, e2⟩ := Option.bind_eq_some_iff.mp e
  refine ⟨F, s, ds, s1, I, e1, fun F1 H1 HL J I1 K1 l it p hp => ?_⟩
  have IL := I1.lock l
  have ft : ¬ g.R.foot p := IL.nofoot hp
  have x0 : Ext F1 HL F1 (upd HL p (.dK [])) := Ext.tmp IL.sub hp
  have no0 : ¬ Own σ s1.e p := fun z => by
    obtain ⟨o, e, _⟩ := (IL.own_at z).2.2
    rw [hp] at e; cases e
  have Gn : Gst g F1 s1.e σ (upd HL p (.dK [])) (upd (fun _ => none) p (.dK [])) := Gst.add gst_nil upd_same (fun _ z => nomatch z) (IL.sub.free hp) no0 ft
  refine ⟨fun i m H' => m = ds.length - i ∧ i ≤ ds.length ∧ ∃ F' s' kvs ads ad Γ, Sim g F' s' σ H' ∧ Keep g F1 s1 σ HL F' s' σ H' ∧ Gst g F' s'.e σ H' Γ ∧ (∀ a o, Γ a = some o → HL a = none) ∧ Γ p = some (.dK kvs) ∧ (p :: ads).Nodup ∧ ItB g F' Γ kvs ads ad ∧ dcG vs T mk m0 m1 (ds.drop i) ad s' = some (qf, sf),
    ⟨_, rfl, Nat.zero_le _, F1, s1, [], [], [], _, IL.ext x0, Keep.ext x0, Gn, fun a o h => ?_, upd_same, by simp, .nil, by simpa using e2⟩, ?_⟩
  · by_cases z : a = p
    · rw [z]; exact hp
    · rw [upd_ne z] at h; cases h
  rintro i m H2 ⟨rfl, hi, F2, s2, kvs, ads, ad, Γ, I2, K2, G2, fr2, gp, nd2, it2, e2⟩
  have pr := Keep.pres IL K2
  by_cases hlt : i < ds.length
  · have hd : ds[i]? = some ds[i] := List.getElem?_eq_getElem hlt
    obtain ⟨go, yl⟩ := it.go F2 H2 K2.grow I2.sub pr i _ hd
    rw [List.drop_eq_getElem_cons hlt] at e2
    unfold dcG at e2
    cases pl : plainAt s2.e vs with
    | false => rw [pl] at e2; cases e2
    | true =>
    rw [pl, if_pos rfl] at e2
    obtain ⟨e', e3, e2⟩ := Option.bind_eq_some_iff.mp e2
    obtain ⟨⟨rk, s5⟩, e5, e2⟩ := Option.bind_eq_some_iff.mp e2
    obtain ⟨⟨d6, s6⟩, e6, e2⟩ := Option.bind_eq_some_iff.mp e2
    obtain ⟨key, ek, e2⟩ := Option.bind_eq_some_iff.mp e2
    obtain ⟨⟨r7, s7⟩, e7, e2⟩ := Option.bind_eq_some_iff.mp e2
    obtain ⟨⟨r8, s8⟩, e8, e2⟩ := Option.bind_eq_some_iff.mp e2
    refine .inr ⟨go, fun H' => ∃ F' s' kvs' ads' ad' Γ', Sim g F' s' σ H' ∧ Keep g F1 s1 σ HL F' s' σ H' ∧ Gst g F' s'.e σ H' Γ' ∧ (∀ a o, Γ' a = some o → HL a = none) ∧ Γ' p = some (.dK kvs') ∧ (p :: ads').Nodup ∧ ItB g F' Γ' kvs' ads' ad' ∧ dcG vs T mk m0 m1 (ds.drop (i + 1)) ad' s' = some (qf, sf), fun H' ⟨F', s', kvs', ads', ad', Γ', q⟩ => ⟨ds.length - (i + 1), by omega, rfl, hlt, F', s', kvs', ads', ad', Γ', q⟩, fun x H3 hy => ?_⟩
    obtain ⟨F3, x3, r3⟩ := yl x H3 hy
    have I3 := I2.ext x3
    have K3 := K2.trans (Keep.ext x3) I3
    have G3 : Gst g F3 s2.e σ H3 Γ := G2.keep (Keep.ext x3)
    have I3w := I3.wipe vs
    refine ⟨F3, _, _, e', I3w, r3, e3, fun σ4 I4 ow fr => ?_⟩
    have hlen : σ4.length = σ.length := by
      have h1 : e'.length = σ4.length := I4.len
      rw [← h1, bindT_len e3, wipeE_length, I3.len]
    have fr' : ∀ j, j ∉ vs → σ4[j]? = σ[j]? := fun j hj => by rw [fr j fun z => hj (hT j z), wipe_out hj]
    refine ⟨wipe_same hlen fr', ?_⟩
    have kb : ∀ {F5 H5 : Hp} {s5 : S g.R.S}, Keep g F3 { s2 with e := e' } σ4 H3 F5 s5 σ4 H5 → Sim g F5 s5 σ4 H5 → Sim g F5 { s5 with e := backE s2.e s5.e vs } σ H5 ∧ Keep g F3 s2 σ H3 F5 { s5 with e := backE s2.e s5.e vs } σ H5 := fun {F5 H5 s5} K5 I5 => by
      have I6 := Sim.back (vs := vs) I3 pl K5.grow I5 hlen fr'
      refine ⟨I6, ⟨fun a u e n nf => K5.heap a u e (fun z => n (ow a z).wipe) nf, K5.grow, fun a u e nt q n => K5.nof a u e nt q fun z => n (ow a z).wipe, fun a z => ?_, K5.there⟩⟩
      rcases K5.own a (z.back pl fr') with z | z
      · exact .inl (ow a z).wipe
      · exact .inr z
    -- within the block: what was new is nobody's
    have G4 : Gst g F3 e' σ4 H3 Γ := ⟨G3.at_, G3.nt, G3.nf, fun a u h z => G3.no a u h (ow a z).wipe, G3.ft⟩
    refine ⟨F3, { s2 with e := e' }, true, { s2 with e := e' }, I4, rfl, fun F5 H5 I5 K5 => ?_⟩
    refine iteT ?_
    have G5 : Gst g F5 e' σ4 H5 Γ := Gst.keep (s := { s2 with e := e' }) (s' := { s2 with e := e' }) G4 K5
    refine tM_esc I5 e5 e6 fun F7 y H7 I7 K7 r7' => ?_
    have G7 : Gst g F7 s6.e σ4 H7 Γ := Gst.keep (s := { s2 with e := e' }) G5 K7
    have K57 := K5.trans K7 I7
    dsimp only at e2
    cases r7 with
    | sh _ => cases e2
    | sl _ => cases e2
    | tmp d0 =>
    cases r8 with
    | sh _ => cases e2
    | sl _ => cases e2
    | tmp d1 =>
    replace e2 : (if ad.length < sizeLine ∧ (ad.any fun p => keq p.1 (keyD key)) = false then dcG vs T mk m0 m1 (ds.drop (i + 1)) (ad ++ [(keyD key, .tup [d0, d1])]) { s8 with e := backE s2.e s8.e vs } else none) = some (qf, sf) := e2
    by_cases hsz : ad.length < sizeLine ∧ (ad.any fun p => keq p.1 (keyD key)) = false
    case neg => rw [if_neg hsz] at e2; cases e2
    rw [if_pos hsz] at e2
    refine ⟨F7, s6, _, s7, I7, e7, fun F8 y0 H8 I8 K8 w8 => ?_⟩
    obtain ⟨a, oa, rfl, wa0, wa1, wa2, wa3, wa4, wa5⟩ := w8
    have aΓ : ∀ x u, Γ x = some u → x ≠ a := fun x u h z => by
      have := G7.at_ x u h
      rw [z, wa0] at this; cases this
    have G8 : Gst g F8 s7.e σ4 H8 (upd Γ a oa) := (Gst.keep G7 K8).add wa4 wa5.nt wa1 wa3 wa2
    have K58 := K57.trans K8 I8
    refine ⟨F8, s7, _, s8, I8, e8, fun F9 y1 H9 I9 K9 w9 => ?_⟩
    obtain ⟨b, ob, rfl, wb0, wb1, wb2, wb3, wb4, wb5⟩ := w9
    have bΓ : ∀ x u, upd Γ a oa x = some u → x ≠ b := fun x u h z => by
      have := G8.at_ x u h
      rw [z, wb0] at this; cases this
    have hab : a ≠ b := bΓ a oa upd_same
    have G9 : Gst g F9 s8.e σ4 H9 (upd (upd Γ a oa) b ob) := (Gst.keep G8 K9).add wb4 wb5.nt wb1 wb3 wb2
    have K59 := K58.trans K9 I9
    intro t ht
    have xt : Ext F9 H9 (upd F9 t (.tup [.ref a, .ref b])) (upd H9 t (.tup [.ref a, .ref b])) := Ext.new I9.sub ht
    have It := I9.ext xt
    have Kt := K59.trans (Keep.ext xt) It
    have Gt : Gst g (upd F9 t (.tup [.ref a, .ref b])) s8.e σ4 (upd H9 t (.tup [.ref a, .ref b])) (upd (upd Γ a oa) b ob) := Gst.keep G9 (Keep.ext xt)
    obtain ⟨Ib, Kb⟩ := kb Kt It
    have K3b := K3.trans Kb Ib
    have Gb : Gst g (upd F9 t (.tup [.ref a, .ref b])) (backE s2.e s8.e vs) σ (upd H9 t (.tup [.ref a, .ref b])) (upd (upd Γ a oa) b ob) := ⟨Gt.at_, Gt.nt, Gt.nf, fun x u h z => Gt.no x u h (z.back pl fr'), Gt.ft⟩
    have hy' : y = kV key := by
      have hd6 := kOf_some ek
      subst hd6
      cases key with
      | inl i => exact Pk.int (H := H7) (.inl r7')
      | inr x => exact Pk.str (H := H7) (.inl r7')
    have pa : p ≠ a := aΓ p _ gp
    have pb : p ≠ b := bΓ p (.dK kvs) (by rw [upd_ne pa]; exact gp)
    have gp' : upd (upd Γ a oa) b ob p = some (.dK kvs) := by rw [upd_ne pb, upd_ne pa]; exact gp
    have hads : ∀ x ∈ ads, x ≠ a ∧ x ≠ b ∧ x ≠ p := fun x hx => by
      obtain ⟨u, hu⟩ := it2.mem x hx
      have h1 := aΓ x u hu
      refine ⟨h1, bΓ x u (by rw [upd_ne h1]; exact hu), fun z => ?_⟩
      subst z; exact (List.nodup_cons.mp nd2).1 hx
    have hkey : putK kvs key (.ref t) = kvs ++ [(key, .ref t)] := by
      unfold putK
      rw [← it2.any key, hsz.2]; rfl
    have ha0 : HL a = none := by
      cases z : HL a with
      | none => rfl
      | some u =>
        obtain ⟨o3, z3⟩ := K3.there a u z
        obtain ⟨o5, z5⟩ := K57.there a o3 z3
        rw [wa0] at z5; cases z5
    have hb0 : HL b = none := by
      cases z : HL b with
      | none => rfl
      | some u =>
        obtain ⟨o3, z3⟩ := K3.there b u z
        obtain ⟨o5, z5⟩ := K58.there b o3 z3
        rw [wb0] at z5; cases z5
    refine ⟨kvs, key, hy', Gb.at_ p _ gp', by rw [it2.length]; exact hsz.1, upd F9 t (.tup [.ref a, .ref b]), { s8 with e := backE s2.e s8.e vs }, kvs ++ [(key, .ref t)], ads ++ [a, b], ad ++ [(keyD key, .tup [d0, d1])], upd (upd (upd Γ a oa) b ob) p (.dK (kvs ++ [(key, .ref t)])), ?_, ?_, ?_, ?_, upd_same, ?_, ?_, e2⟩
    · rw [hkey]; exact Ib.grow (Gb.nf p _ gp') (Gb.no p _ gp') ft
    · rw [hkey]; exact K3b.grow' hp
    · rw [hkey]; exact Gb.chg gp' (fun _ z => nomatch z)
    · intro x u h
      by_cases z : x = p
      · rw [z]; exact hp
      · rw [upd_ne z] at h
        by_cases z2 : x = b
        · rw [z2]; exact hb0
        · rw [upd_ne z2] at h
          by_cases z3 : x = a
          · rw [z3]; exact ha0
          · rw [upd_ne z3] at h; exact fr2 x u h
    · rw [← List.cons_append]
      refine List.nodup_append.mpr ⟨nd2, by simp [hab], fun x hx y hy e => ?_⟩
      subst e
      have hy : x = a ∨ x = b := by simpa using hy
      rcases List.mem_cons.mp hx with z | z
      · rcases hy with h | h
        · exact pa (z.symm.trans h)
        · exact pb (z.symm.trans h)
      · rcases hy with h | h
        · exact (hads x z).1 h
        · exact (hads x z).2.1 h
    · have le9 : Le F2 (upd F9 t (.tup [.ref a, .ref b])) := (x3.le.trans K59.grow).trans xt.le
      refine ItB.append upd_same (oa := oa) (ob := ob) ?_ (wa5.mono (K9.grow.trans xt.le)) ?_ (wb5.mono xt.le) (it2.mono le9 fun x hx => ?_)
      · rw [upd_ne (Ne.symm pa), upd_ne hab, upd_same]
      · rw [upd_ne (Ne.symm pb), upd_same]
      · obtain ⟨h1, h2, h3⟩ := hads x hx
        rw [upd_ne h3, upd_ne h2, upd_ne h1]
  · have e' : i = ds.length := by omega
    subst e'
    rw [List.drop_length] at e2
    cases e2
    refine .inl ⟨it.stop F2 H2 K2.grow I2.sub pr, Sim.unlock I1 K1 l I2 K2 fun H' hk I' K' => k F2 p kvs ads Γ H' ⟨I', K', ⟨fun a o h => hk _ _ (G2.nf a o h) (G2.at_ a o h), G2.nt, G2.nf, G2.no, G2.ft⟩, fun a o h => ?_, gp, nd2, it2⟩⟩
    cases q : H a with
    | none => rfl
    | some u =>
      obtain ⟨o', z⟩ := K1.there a u q
      rw [l.free (fr2 a o h)] at z; cases z
end
end RW
namespace RW
open PySem L2
section
variable {g : G} {X : Cx}
/-! ### a def that gives a new dict of pairs of new dicts -/
abbrev Ft (R : Type) := List D → R → Option (List (D × D) × R)
def spT (g : G) (mt : Ft g.R.S) : Sp := fun vs H Q _ => ∃ F r ds es r', Sub F H ∧ g.R.At r H ∧ (∀ a, g.R.foot a → F a = none) ∧ RepAll g F vs ds ∧ ds.length = 1 ∧ mt ds r = some (es, r') ∧
  ∀ F' t kvs ads Γ H', Left g F H F' H' r' → (∀ a o, Γ a = some o → H' a = some o ∧ NT o ∧ F' a = none ∧ ¬ g.R.foot a ∧ H a = none) → Γ t = some (.dK kvs) → (t :: ads).Nodup → ItB g F' Γ kvs ads es → Q (.ref t) H'
def tDp (g : G) (vs : List Nat) (mi : M g.R.S (List D)) (T : Tg) (mk m0 m1 : M g.R.S Vr) : TE := fun σ H Q => ∃ F s sf es, Sim g F s σ H ∧ mDcG vs mi T mk m0 m1 s = some (es, sf) ∧ ∀ F' t kvs ads Γ H', GoodB g F s σ H sf es F' t kvs ads Γ H' → Q (.ref t) H'
theorem pe_dp {kx a b tg iter : Expr} {scope : Scope} {pos tpos : Pos} {x1} {mi : M g.R.S (List D)} {T : Tg} {mk m0 m1 : M g.R.S Vr} {k : Nat} (own : List (Str × Nat)) (o : XO g k X) (hi : DI g X tg iter mi) (ok : BlkOk X.N X.env.scope scope own)
    (hg : ∀ (s : Shared) (H : Hp) (C : Addr) (cl : List (Str × Addr)) (fp : List Addr), PG (X.blk s H scope (compEnvC scope cl C X.env) fp) tg (tG g T))
    (hk : ∀ (s : Shared) (H : Hp) (C : Addr) (cl : List (Str × Addr)) (fp : List Addr), DE g (X.blk s H scope (compEnvC scope cl C X.env) fp) kx mk)
    (h0 : ∀ (s : Shared) (H : Hp) (C : Addr) (cl : List (Str × Addr)) (fp : List Addr), DE g (X.blk s H scope (compEnvC scope cl C X.env) fp) a m0)
    (h1 : ∀ (s : Shared) (H : Hp) (C : Addr) (cl : List (Str × Addr)) (fp : List Addr), DE g (X.blk s H scope (compEnvC scope cl C X.env) fp) b m1)
    (hT : ∀ j ∈ tSlots T, j ∈ own.map (·.2) := by decide) (hs : ∀ x, foldedSetIterable iter X.env x = pure x := by intro _; rfl)
    (hp1 : ∀ env, starEach [a, b] env = (false, eval a env) :: starEach [b] env := by intro _; rfl) (hp2 : ∀ env, starEach [b] env = (false, eval b env) :: starEach [] env := by intro _; rfl) :
    PE X (.DictComp kx (.Tuple [a, b] x1 tpos) [⟨tg, iter, [], 0⟩] scope pos) (tDp g (own.map (·.2)) mi T mk m0 m1) :=
  PE.imp (pe_un' (pe_dc (own := own) o.calm o.nd hi ok hg (fun _ _ _ _ _ => c_nil) hk (fun s H C cl fp => pe_pair (h0 s H C cl fp) (h1 s H C cl fp) (hp1 _) (hp2 _)) hs)) fun σ H Q ⟨F, s, sf, es, I, e, k⟩ => tDcG_of hT I e k
def fnT {R : Type} (nl : Nat) (md : M R (List (D × D))) : Ft R := fun ds r => (md ⟨ent nl ds, r⟩).map fun q => (q.1, q.2.r)
theorem body_okT {N : List Str} {vs : List V} {vs' : List Nat} {mi : M g.R.S (List D)} {T : Tg} {mk m0 m1 : M g.R.S Vr} {H : Hp} {Q : VK} {E : XK} (h : spT g (fnT N.length (mDcG vs' mi T mk m0 m1)) vs H Q E) : tDp g vs' mi T mk m0 m1 (start N vs) H Q := by
  obtain ⟨F, r, ds, es, r', sub, at_, ft, rep, hl, e, k⟩ := h
  obtain ⟨⟨es', s'⟩, e1, e2⟩ := Option.map_eq_some_iff.mp e
  cases e2
  exact ⟨F, ⟨ent N.length ds, r⟩, s', _, sim_ent sub at_ ft rep, e1, fun F' t kvs ads Γ H' ⟨I', K', G', fr, gt, nd, it⟩ => k F' t kvs ads Γ H' (left_of I' K') (fun a o h => ⟨G'.at_ a o h, G'.nt a o h, G'.nf a o h, G'.ft a o h, fr a o h⟩) gt nd it⟩
theorem spT_len {vs : List V} {mt : Ft g.R.S} {Q : VK} {E : XK} (h : spT g mt vs H Q E) : vs.length = 1 := by
  obtain ⟨F, r, ds, es, r', sub, at_, ft, rep, hl, _⟩ := h
  rw [rep.length, hl]
structure FuT (g : G) (P : Program) (w : World) (mg : Str → Option Value) (base : Heap) (k : Nat) (x qual : Str) (st : Stmt) (ps : List Str) (mt : Ft g.R.S) (f : Addr) : Prop where
  ex : ∃ fd, FnP g.K x qual st f fd ∧ FnG P w g.K mg base k f fd ps (spT g mt) ∧ Binds g.K fd ps []
theorem fuT_of {P : Program} {w : World} {mg : Str → Option Value} {base : Heap} {k : Nat} {x qual : Str} {st : Stmt} {N ps : List Str} {vs' : List Nat} {mi : M g.R.S (List D)} {T : Tg} {mk m0 m1 : M g.R.S Vr} {f : Addr} (sy : ∃ u, base.get? sysModules = some u) (F : ∃ fd, FnP g.K x qual st f fd) (S : FnScope N ps (defScope st)) (hn : ps.length = 1)
    (bi : ∀ (kV doc pm : Value) (an : Option Addr) (cdv ct : Value) (us : List Value), us.length = ps.length → bindArgs (PySem.W.fnOf x qual (defArgs st) (defBody st) (defScope st) .none kV doc pm an cdv ct) ⟨us, []⟩ = pure (ps.zip us))
    (hb : ∀ (cdv : Value) (A : Around) (outer : List Env) (s : Shared) (H : Hp), XO g k (cxOf CX0 P w g.K mg base N qual (defScope st) f cdv A outer s H E0).nox → PSs (cxOf CX0 P w g.K mg base N qual (defScope st) f cdv A outer s H E0).nox (defBody st) (tRet (tDp g vs' mi T mk m0 m1))) :
    FuT g P w mg base (k + 1) x qual st ps (fnT N.length (mDcG vs' mi T mk m0 m1)) f := by
  obtain ⟨fd, F⟩ := F
  exact ⟨fd, F, FunD.okG F S (fun _ _ _ _ h => by rw [spT_len h, hn]) fun cdv A outer s H _ _ hr gd hsp => ⟨_, (hb cdv A outer s H ⟨rfl, hr, rfl, S.nd, deeper_guards gd, sy⟩).nox, body_okT hsp⟩, F.bindsN bi⟩
/-! ### tables = self.tables; tables[goal][..][node] = place -/
def mTabs {R : Type} (c si i gi ni : Nat) (mt : Ft R) (mif m3 : M R Vr) : MS R := fun s => match s.e[si]? with
  | some (some ⟨.obj c' fs, false⟩) => if c' = c ∧ i < s.e.length then (mt [.obj c' fs] s.r).bind fun p => (m3 ⟨s.e.set i none, p.2⟩).bind fun u => (esc (soft u.1) u.2).bind fun w => match w.2.e[gi]? with
      | some (some ⟨.str x, false⟩) => (mif w.2).bind fun q => match q.1, q.2.e[ni]? with
        | .sh (.int b), some (some ⟨.str nd, false⟩) => if b = 0 ∨ b = 1 then (tabPut x (decide (b = 1)) nd w.1 p.1).map fun es' => (.nx, ⟨q.2.e.set i (some ⟨.dct false es', false⟩), q.2.r⟩) else none
        | _, _ => none
      | _ => none
    else none
  | _ => none
theorem plain_str {F H : Hp} {s : S g.R.S} {σ : St} (I : Sim g F s σ H) {i : Nat} {x : Str} (h : s.e[i]? = some (some ⟨.str x, false⟩)) : σ[i]? = some (some (.str x)) := by
  obtain ⟨v, h1, h2⟩ := I.cell i _ h
  have r : Rep g F v (.str x) := by
    rcases h2 with ⟨_, z⟩ | ⟨z, _⟩
    · exact z
    · cases z
  obtain rfl := (show Pk g F H v (.str x) from .inl r).str
  exact h1
theorem b_tabs {c si i gi ni : Nat} {S1 S2 : Stmt} {rest : List Stmt} {mt : Ft g.R.S} {mif m3 : M g.R.S Vr} {mr : MS g.R.S} {E0 : XK}
    (h1 : PS X S1 (tAsg (tProp (g.cls c) (spT g mt) [] E0 (tVar si)) (gName i))) (h2 : PS X S2 (tAsg (tM g m3) (gSub (tOp (rIx g.K) (tDGet (tVar i) (tVar gi)) (tM g mif)) (tVar ni) rSetD))) (hr : DB g X rest mr) : DB g X (S1 :: S2 :: rest) (mSeq (mTabs c si i gi ni mt mif m3) mr) := by
  refine PSs.imp (pss_cons h1 (pss_cons h2 hr)) fun E σ H ⟨F, s, fl, s', I, e, o⟩ => ?_
  unfold mSeq at e
  obtain ⟨⟨ff, ss⟩, e0, e⟩ := Option.bind_eq_some_iff.mp e
  unfold mTabs at e0
  split at e0
  case h_2 => cases e0
  rename_i c' fs hsi
  split at e0
  case isFalse => cases e0
  rename_i hc
  obtain ⟨rfl, hil⟩ := hc
  obtain ⟨⟨es, r1⟩, e1, e0⟩ := Option.bind_eq_some_iff.mp e0
  obtain ⟨⟨u3, s3⟩, e3, e0⟩ := Option.bind_eq_some_iff.mp e0
  obtain ⟨⟨d3, s4⟩, e4, e0⟩ := Option.bind_eq_some_iff.mp e0
  dsimp only at e0
  split at e0
  case h_2 => cases e0
  rename_i x hgi
  obtain ⟨⟨v5, s5⟩, e5, e0⟩ := Option.bind_eq_some_iff.mp e0
  dsimp only at e0
  split at e0
  case h_2 => cases e0
  rename_i b nd hni
  split at e0
  case isFalse => cases e0
  rename_i hb
  obtain ⟨es', etab, e0⟩ := Option.map_eq_some_iff.mp e0
  cases e0
  have e : mr _ = some (fl, s') := e
  have hsl : s.e.length = σ.length := I.len
  obtain ⟨vs, q1, q2⟩ := I.cell si _ hsi
  have rs : Rep g F vs (.obj c' fs) := by
    rcases q2 with ⟨_, z⟩ | ⟨z, _⟩
    · exact z
    · cases z
  obtain ⟨a, dx, fv, rfl, ha, _⟩ := (show Pk g F H vs (.obj c' fs) from .inl rs).obj I.sub
  refine ⟨.ref a, q1, a, dx, fv, rfl, ha, F, s.r, [.obj c' fs], es, r1, I.sub, I.at_, I.foot, .cons rs .nil, rfl, e1, fun F1 t kvs ads Γ H1 l hΓ gt ndp it => ?_⟩
  obtain ⟨I1, K1⟩ := I.left l
  let σ1 : St := σ.set i (some (.ref t))
  have hs1 : σ1[i]? = some (some (.ref t)) := List.getElem?_set_self (by omega)
  have I1d : Sim g F1 ⟨s.e.set i none, r1⟩ σ1 H1 := I1.drop i _
  have K1d : Keep g F s σ H F1 ⟨s.e.set i none, r1⟩ σ1 H1 := ⟨K1.heap, K1.grow, K1.nof, fun a z => K1.own a (own_drop z), K1.there⟩
  have G1d : Gst g F1 (s.e.set i none) σ1 H1 Γ := ⟨fun a o h => (hΓ a o h).1, fun a o h => (hΓ a o h).2.1, fun a o h => (hΓ a o h).2.2.1, (fun a o h z => by
    obtain ⟨o', y, _⟩ := (I.own_at (own_drop z)).2.2
    rw [(hΓ a o h).2.2.2.2] at y; cases y), fun a o h => (hΓ a o h).2.2.2.1⟩
  have fr : ∀ a o, Γ a = some o → H a = none := fun a o h => (hΓ a o h).2.2.2.2
  refine tM_esc I1d e3 e4 fun F4 v H4 I4 K4 r4 => ?_
  have K14 := K1d.trans K4 I4
  have G4 : Gst g F4 s4.e σ1 H4 Γ := Gst.keep (s := ⟨s.e.set i none, r1⟩) G1d K4
  obtain ⟨p, a0, a1, q, kq, p1, p2, p3, p4, p5, p6, p7⟩ := ItB.put r4 (it.mono K4.grow fun _ _ => rfl) (List.nodup_cons.mp ndp).2 etab
  refine ⟨.ref t, hs1, .str x, plain_str I4 hgi, t, .ref p, rfl, ?_, F4, s4, _, s5, I4, e5, fun F5 y H5 I5 K5 w5 => ?_⟩
  · have := DGet.k (k := .inr x) (G4.at_ t _ gt)
    rw [p1] at this; exact this
  obtain rfl := (show Pk g F5 H5 y (.int b) from .inl w5).int
  have K15 := K14.trans K5 I5
  have G5 : Gst g F5 s5.e σ1 H5 Γ := Gst.keep (s := s4) G4 K5
  have hp5 : H5 p = some (.tup [.ref a0, .ref a1]) := by
    rcases I5.sub p _ (K5.grow _ _ p2) with z | ⟨z, _⟩
    · exact z
    · rcases z with ⟨_, z⟩ | ⟨_, z⟩ <;> cases z
  refine .inr (.inl ⟨p, [.ref a0, .ref a1], b, .ref q, rfl, rfl, .inl (.inl hp5), ?_, .str nd, plain_str I5 hni, q, upd H5 q (.dK (putK kq (.inr nd) v)), rfl, DPut.k (k := .inr nd) (G5.at_ q _ p5) p6, ?_⟩)
  · rw [p3]
    rcases hb with rfl | rfl
    · rfl
    · rfl
  have htq : t ≠ q := fun z => (List.nodup_cons.mp ndp).1 (by rw [z]; exact p4)
  have I6 := I5.grow (o := .dK (putK kq (.inr nd) v)) (G5.nf q _ p5) (G5.no q _ p5) (G5.ft q _ p5)
  have G6 := G5.chg p5 (o := .dK (putK kq (.inr nd) v)) (fun _ z => nomatch z)
  have I7 := G6.merge I6
  have fr' : ∀ a u, upd Γ q (.dK (putK kq (.inr nd) v)) a = some u → H a = none := fun a u h => by
    by_cases z : a = q
    · rw [z]; exact fr q _ p5
    · rw [upd_ne z] at h; exact fr a u h
  have K7 := (K15.upd' (o := .dK (putK kq (.inr nd) v)) (.inl (fr q _ p5))).merge fr' G6.le
  have I8 := I7.setSh (i := i) (d := .dct false es') hs1 (.ref (un_in (by rw [upd_ne htq]; exact gt)) (.dK (ItB.reps G6.le (p7.mono K5.grow fun _ _ => rfl))))
  have K8 : Keep g F s σ H (un F5 (upd Γ q (.dK (putK kq (.inr nd) v)))) ⟨s5.e.set i (some ⟨.dct false es', false⟩), s5.r⟩ σ1 (upd H5 q (.dK (putK kq (.inr nd) v))) := ⟨K7.heap, K7.grow, K7.nof, fun a z => K7.own a (own_sh z), K7.there⟩
  exact ⟨_, _, fl, s', I8, e, o.base K8⟩
/-! ### as the printer wants them -/
def tRowsE (g : G) (vs : List Nat) (mi : M g.R.S (List D)) (T : Tg) (me : M g.R.S Vr) : TE := fun σ H Q => ∃ F s sf ds, Sim g F s σ H ∧ mLcG vs mi T me s = some (ds, sf) ∧ ∀ F' l qs Γ H', GoodL g F s σ H sf ds F' l qs Γ H' → Q (.ref l) H'
theorem ps_rowsC {i : Nat} {y : Str} {py : Pos} {elt tg iter : Expr} {scope : Scope} {pos spos : Pos} {mi : M g.R.S (List D)} {T : Tg} {me : M g.R.S Vr} {k : Nat} (own : List (Str × Nat)) (o : XO g k X) (hi : DI g X tg iter mi) (ok : BlkOk X.N X.env.scope scope own)
    (hg : ∀ (s : Shared) (H : Hp) (C : Addr) (cl : List (Str × Addr)) (fp : List Addr), PG (X.blk s H scope (compEnvC scope cl C X.env) fp) tg (tG g T))
    (he : ∀ (s : Shared) (H : Hp) (C : Addr) (cl : List (Str × Addr)) (fp : List Addr), DE g (X.blk s H scope (compEnvC scope cl C X.env) fp) elt me)
    (hT : ∀ j ∈ tSlots T, j ∈ own.map (·.2) := by decide) (hs : ∀ x, foldedSetIterable iter X.env x = pure x := by intro _; rfl) (hy : X.N[i]? = some y := by rfl) (hx : Loc X.env.scope y := by first | exact Or.inl rfl | exact Or.inr rfl)
    (hsw : swapsWith (.ListComp elt [⟨tg, iter, [], 0⟩] scope pos) (some (.Name y py)) spos.line X.env = pure false := by rfl)
    (hf : X.fn y = true ∨ X.env.scope.names.lookup y = some .local := by first | exact .inl rfl | exact .inr rfl | assumption) :
    PS X (.Assign [.Name y py] (.ListComp elt [⟨tg, iter, [], 0⟩] scope pos) spos) (tRows g (own.map (·.2)) i mi T me) :=
  PS.imp (ps_set o.nd hy hx (show PE X (.ListComp elt [⟨tg, iter, [], 0⟩] scope pos) (tRowsE g (own.map (·.2)) mi T me) from PE.imp (pe_un' (pe_lc (own := own) o.calm o.nd hi ok hg (fun _ _ _ _ _ => c_nil) he hs)) fun σ H Q ⟨F, s, sf, ds, I, e, k⟩ => tLcG_of hT I e k) hsw hf) fun E σ H h => h
theorem pe_propT {k j : Nat} {f pr : Addr} {ps : List Str} {mt : Ft g.R.S} {c : Nat} {at_ qual nm : Str} {st : Stmt} {pos : Pos} {e : Expr} {ta : TE} (F : FuT g X.prog X.w X.mg X.base j nm qual st ps mt f) (xo : XO g k X) (cl : Cls X.K (g.cls c)) (hp : PropOf X.K (g.cls c) at_ pr f)
    (he : PE X e ta) (hj : j + 1 ≤ k := by decide) (hb : attributeBase e at_ X.env (eval e X.env) = eval e X.env := by rfl) : PE X (.Attribute e at_ pos) (tProp (g.cls c) (spT g mt) [] E0 ta) := by
  obtain ⟨fd, h1, h2, h3⟩ := F
  have K := xo.K
  rw [← K] at h1 h2 h3
  exact pg_prop he cl hp h2 (xo.rm.mono hj) xo.gd h3 hb
theorem pe_ixg {k : Nat} {a b : Expr} {pos : Pos} {ta tb : TE} (o : XO g k X) (ha : PE X a ta) (hb : PE X b tb) (hs : PlainIx b := by intro _ _; rfl) : PE X (.Subscript a b pos) (tOp (rIx g.K) ta tb) := by
  rw [← o.K]; exact pe_ix ix_seq ha hb hs
theorem pe_dgetS {k : Nat} {a b : Expr} {pos : Pos} {ta tb : TE} (o : XO g k X) (ha : PE X a ta) (hb : PE X b tb) (hs2 : NoSl b := by intro _ _; rfl) : PE X (.Subscript a b pos) (tDGet ta tb) := pe_dget o.hu ha hb hs2
theorem FuT.mono {P : Program} {w : World} {mg : Str → Option Value} {base : Heap} {j k : Nat} {x qual : Str} {st : Stmt} {ps : List Str} {mt : Ft g.R.S} {f : Addr} (h : FuT g P w mg base j x qual st ps mt f) (hk : j ≤ k) : FuT g P w mg base k x qual st ps mt f := by
  obtain ⟨fd, h1, h2, h3⟩ := h
  exact ⟨fd, h1, h2.mono hk, h3⟩
end
end RW
set_option maxHeartbeats 0
namespace RW
open PySem L2
def top (i : Nat) : Stmt := PySem.Challenge.pw_roundways_k06_rings_of_mixtures.main.body.getD i (.Pass ⟨0, 0, 0, 0⟩)
def fn0 : List He.DefD := [⟨("is_list", none), "is_list", "is_list", defArgs (top 14), defBody (top 14), defScope (top 14), [], []⟩, ⟨("is_name", none), "is_name", "is_name", defArgs (top 15), defBody (top 15), defScope (top 15), [], []⟩, ⟨("are_names", none), "are_names", "are_names", defArgs (top 16), defBody (top 16), defScope (top 16), [], []⟩, ⟨("is_place", none), "is_place", "is_place", defArgs (top 17), defBody (top 17), defScope (top 17), [], []⟩, ⟨("is_table", none), "is_table", "is_table", defArgs (top 18), defBody (top 18), defScope (top 18), [], []⟩, ⟨("nodes_of", none), "nodes_of", "nodes_of", defArgs (top 19), defBody (top 19), defScope (top 19), [], []⟩, ⟨("are_tables", none), "are_tables", "are_tables", defArgs (top 20), defBody (top 20), defScope (top 20), [], []⟩, ⟨("are_nodes", none), "are_nodes", "are_nodes", defArgs (top 21), defBody (top 21), defScope (top 21), [], []⟩, ⟨("ordered", none), "ordered", "ordered", defArgs (top 22), defBody (top 22), defScope (top 22), [], []⟩, ⟨("Net", some "__init__"), "__init__", "Net.__init__", defArgs (inClass (top 23) 0), defBody (inClass (top 23) 0), defScope (inClass (top 23) 0), [.adr (He.dflAt ("Net", some "__init__") 0), .adr (He.dflAt ("Net", some "__init__") 1)], []⟩, ⟨("Net", some "does_change"), "does_change", "Net.does_change", defArgs (inClass (top 23) 1), defBody (inClass (top 23) 1), defScope (inClass (top 23) 1), [], []⟩, ⟨("Net", some "way"), "way", "Net.way", defArgs (inClass (top 23) 8), defBody (inClass (top 23) 8), defScope (inClass (top 23) 8), [], []⟩, ⟨("Net", some "with_way"), "with_way", "Net.with_way", defArgs (inClass (top 23) 10), defBody (inClass (top 23) 10), defScope (inClass (top 23) 10), [], []⟩, ⟨("Net", some "__eq__"), "__eq__", "Net.__eq__", defArgs (inClass (top 23) 11), defBody (inClass (top 23) 11), defScope (inClass (top 23) 11), [], []⟩, ⟨("Net", some "__iter__"), "__iter__", "Net.__iter__", defArgs (inClass (top 23) 12), defBody (inClass (top 23) 12), defScope (inClass (top 23) 12), [], []⟩, ⟨("need_net", none), "need_net", "need_net", defArgs (top 24), defBody (top 24), defScope (top 24), [], []⟩, ⟨("need_goal", none), "need_goal", "need_goal", defArgs (top 25), defBody (top 25), defScope (top 25), [], []⟩, ⟨("need_node", none), "need_node", "need_node", defArgs (top 26), defBody (top 26), defScope (top 26), [], []⟩, ⟨("is_lot", none), "is_lot", "is_lot", defArgs (top 28), defBody (top 28), defScope (top 28), [], []⟩, ⟨("need_done", none), "need_done", "need_done", defArgs (top 29), defBody (top 29), defScope (top 29), [], []⟩, ⟨("need_round", none), "need_round", "need_round", defArgs (top 30), defBody (top 30), defScope (top 30), [], []⟩, ⟨("mixture", none), "mixture", "mixture", defArgs (top 31), defBody (top 31), defScope (top 31), [], []⟩, ⟨("next_nodes", none), "next_nodes", "next_nodes", defArgs (top 32), defBody (top 32), defScope (top 32), [], []⟩, ⟨("ways", none), "ways", "ways", defArgs (top 33), defBody (top 33), defScope (top 33), [], []⟩, ⟨("rings_from", none), "rings_from", "rings_from", defArgs (top 34), defBody (top 34), defScope (top 34), [], []⟩, ⟨("ring_in", none), "ring_in", "ring_in", defArgs (top 35), defBody (top 35), defScope (top 35), [], []⟩, ⟨("ring", none), "ring", "ring", defArgs (top 36), defBody (top 36), defScope (top 36), [], []⟩, ⟨("_law_begin", none), "_law_begin", "_law_begin", defArgs (top 38), defBody (top 38), defScope (top 38), [], []⟩, ⟨("_law_blend", none), "_law_blend", "_law_blend", defArgs (top 39), defBody (top 39), defScope (top 39), [], []⟩, ⟨("_law_pick", none), "_law_pick", "_law_pick", defArgs (top 40), defBody (top 40), defScope (top 40), [], []⟩]
def fn1 : List He.DefD := [⟨("_law_mixed", none), "_law_mixed", "_law_mixed", defArgs (top 41), defBody (top 41), defScope (top 41), [], []⟩, ⟨("_law_take", none), "_law_take", "_law_take", defArgs (top 42), defBody (top 42), defScope (top 42), [], []⟩, ⟨("_law_words", none), "_law_words", "_law_words", defArgs (top 43), defBody (top 43), defScope (top 43), [], []⟩, ⟨("_law_tree", none), "_law_tree", "_law_tree", defArgs (top 44), defBody (top 44), defScope (top 44), [], []⟩, ⟨("_law_path", none), "_law_path", "_law_path", defArgs (top 45), defBody (top 45), defScope (top 45), [], []⟩, ⟨("_law_wild", none), "_law_wild", "_law_wild", defArgs (top 46), defBody (top 46), defScope (top 46), [], []⟩, ⟨("_law_near", none), "_law_near", "_law_near", defArgs (top 47), defBody (top 47), defScope (top 47), [], []⟩, ⟨("_law_pair", none), "_law_pair", "_law_pair", defArgs (top 48), defBody (top 48), defScope (top 48), [], []⟩, ⟨("_law_model", none), "_law_model", "_law_model", defArgs (top 49), defBody (top 49), defScope (top 49), [], []⟩, ⟨("_law_net", none), "_law_net", "_law_net", defArgs (top 50), defBody (top 50), defScope (top 50), [], []⟩, ⟨("_law_moving_dots", none), "_law_moving_dots", "_law_moving_dots", defArgs (top 51), defBody (top 51), defScope (top 51), [], []⟩, ⟨("_law_web", none), "_law_web", "_law_web", defArgs (top 52), defBody (top 52), defScope (top 52), [], []⟩, ⟨("_law_round", none), "_law_round", "_law_round", defArgs (top 53), defBody (top 53), defScope (top 53), [], []⟩, ⟨("_law_rings", none), "_law_rings", "_law_rings", defArgs (top 54), defBody (top 54), defScope (top 54), [], []⟩, ⟨("_law_other", none), "_law_other", "_law_other", defArgs (top 55), defBody (top 55), defScope (top 55), [], []⟩, ⟨("_law_are_moving", none), "_law_are_moving", "_law_are_moving", defArgs (top 56), defBody (top 56), defScope (top 56), [], []⟩, ⟨("_law_other_right", none), "_law_other_right", "_law_other_right", defArgs (top 57), defBody (top 57), defScope (top 57), [], []⟩, ⟨("law", none), "law", "law", defArgs (top 58), defBody (top 58), defScope (top 58), [], []⟩]
def fn : List He.DefD := fn0 ++ fn1
def fa0 : List He.Fa := [.glo "WayError", .glo "BadNet", .glo "NoGoal", .glo "NoNode", .glo "BadPlace", .glo "BadLot", .glo "is_list", .glo "is_name", .glo "are_names", .glo "is_place", .glo "is_table", .glo "nodes_of", .glo "are_tables", .glo "are_nodes", .glo "ordered", .glo "Net", .glo "need_net", .glo "need_goal", .glo "need_node", .glo "is_lot", .glo "need_done", .glo "need_round", .glo "mixture", .glo "next_nodes", .glo "ways", .glo "rings_from", .glo "ring_in", .glo "ring", .glo "_law_begin", .glo "_law_blend"]
def fa1 : List He.Fa := [.glo "_law_pick", .glo "_law_mixed", .glo "_law_take", .glo "_law_words", .glo "_law_tree", .glo "_law_path", .glo "_law_wild", .glo "_law_near", .glo "_law_pair", .glo "_law_model", .glo "_law_net", .glo "_law_moving_dots", .glo "_law_web", .glo "_law_round", .glo "_law_rings", .glo "_law_other", .glo "_law_are_moving", .glo "_law_other_right", .glo "law", .str "LETTERS" "abcdefghijklmnopqrstuvwxyz", .int "LONGEST" 6, .int "MOST_GOALS" 2, .int "MOST_NODES" 6, .int "MOST_POSTS" 2, .cls "Net", .mkr "Net", .meth "Net" "does_change", .meth "Net" "way", .meth "Net" "with_way", .meth "Net" "__eq__"]
def fa2 : List He.Fa := [.meth "Net" "__iter__", .meth "Net" "__init__", .noat "Net" "own_tables", .noat "Net" "own_goals", .noat "Net" "own_nodes", .noat "Net" "own_sources", .noat "Net" "own_posts", .noat "Net" "own_changing", .free "len", .free "isinstance", .free "sorted", .free "tuple", .free "all", .free "any", .free "range", .free "list", .free "dict", .free "int", .free "repr", .free "min", .free "max", .free "abs", .free "enumerate", .free "set", .free "zip", .free "str", .free "sum", .free "bool"]
def fa : List He.Fa := fa0 ++ fa1 ++ fa2
def nms0 : List PySem.Str := ["_wall", "WayError", "BadNet", "NoGoal", "NoNode", "BadPlace", "BadLot", "LETTERS", "LONGEST", "MOST_GOALS", "MOST_NODES", "MOST_POSTS", "is_list", "is_name", "are_names", "is_place", "is_table", "nodes_of", "are_tables", "are_nodes", "ordered", "Net", "need_net", "need_goal", "need_node", "is_lot", "need_done", "need_round", "mixture", "next_nodes"]
def nms1 : List PySem.Str := ["ways", "rings_from", "ring_in", "ring", "_law_begin", "_law_blend", "_law_pick", "_law_mixed", "_law_take", "_law_words", "_law_tree", "_law_path", "_law_wild", "_law_near", "_law_pair", "_law_model", "_law_net", "_law_moving_dots", "_law_web", "_law_round", "_law_rings", "_law_other", "_law_are_moving", "_law_other_right"]
def nms : List PySem.Str := nms0 ++ nms1
def gts : List GetD := [⟨"Net", "tables", "tables", "Net.tables", inClass (top 23) 2⟩]
def clsOf (K : PySem.W.Frag) : Nat → Addr := fun c => match c with | 0 => He.ga K "Net" | _ => 0
def exB (K : PySem.W.Frag) : Bool := isCB K (He.ga K "Net")
abbrev Ro : PySem.W.OpenRow := PySem.W.OpenLaw.row PySem.Challenge.rw_roundways_k06_rings_of_mixtures
abbrev hk : PySem.W.Hook := hookP 6 fa fn gts exB
def ob (s : PySem.W.SharedT) : ((Bool × Bool) × He.AlD) × He.AlD := obsP 6 fa fn gts exB (HandSHeadRun.getT s)
theorem ob_eq (s : PySem.W.SharedT) : ob s = hk.obs s.abs := obsP_eq (HandSHeadRun.getT_eq s)
theorem run (w : World) : HandSHeadRun.RunEq Ro (PySem.W.view Ro.prog [58]) hk ob 8000 nms w := by
  intro os
  kernel_rfl
end RW
namespace RW
open PySem L2
def m__law_begin {R : Type} (T : Fm R) : MS R := mSeq (mSet 1 (mLc [2] (mIt itemsOf (mV 0)) (.nm 2) (mOp2 geI (mOp1 absD (mV 2)) (mOp2 (o2I iPow) (mC (.int 10)) (mC (.int 18)))) (mOp2 (o2I fun i j => some (.int (i - j))) (mOp1 absD (mV 2)) (mOp2 (o2I iPow) (mC (.int 10)) (mC (.int 18)))))) (mRt (mDisp ((mC (.str "great"), mV 1) :: (mC (.str "rest"), mC (.int 0)) :: (mC (.str "cells"), mLc [2] (mIt itemsOf (mV 0)) (.nm 2) (mC (.bl true)) (mOp1 absD (mV 2))) :: (mC (.str "turn"), mC (.int 0)) :: [])))
def f__law_begin {R : Type} (T : Fm R) : Fm R := fnM 3 (m__law_begin T)
def m__law_mixed {R : Type} (T : Fm R) : MS R := mSeq (mPar [2, 3] [mOp1 listD (mV 1), mLst (mArgs [])]) (mSeq (mWhile (mOp2 neD (mV 2) (mLst (mArgs []))) (mEx (mMut 3 isLst appL (mArgs [mMut 2 isLst popAtL (mArgs [mCall T (mArgs [mV 0, mOp1 lenD (mV 2)])])])))) (mRt (mV 3)))
def f__law_mixed {R : Type} (T : Fm R) : Fm R := fnM 4 (m__law_mixed T)
def m__law_pick {R : Type} (T : Fm R) : MS R := mRt (mOp2 idxD (mV 1) (mCall T (mArgs [mV 0, mOp1 lenD (mV 1)])))
def f__law_pick {R : Type} (T : Fm R) : Fm R := fnM 2 (m__law_pick T)
def m__law_near {R : Type} (T : Fm R) : MS R := mSeq (mPar [3, 4] [mOp1 dictD (mV 1), mOp1 sortF (mV 1)]) (mSeq (mFor (mRng1 (mOp2 addD (mC (.int 1)) (mCall T (mArgs [mV 0, mC (.int 2)])))) (.nm 5) (mSeq (mSet 6 (mCall (f__law_pick T) (mArgs [mV 0, mV 4]))) (mPut 3 (mV 6) (mCall (f__law_pick T) (mArgs [mV 0, mOp2 addD (mLc [7] (mIt itemsOf (mV 4)) (.nm 7) (mOp2 neD (mV 7) (mV 6)) (mV 7)) (mLst (mArgs [mV 2]))]))))) (mRt (mV 3)))
def f__law_near {R : Type} (T : Fm R) : Fm R := fnM 8 (m__law_near T)
def m__law_path {R : Type} (T : Fm R) : MS R := mSeq (mSet 3 (mOp2 addD (mCall (f__law_mixed T) (mArgs [mV 0, mV 1])) (mLst (mArgs [mV 2])))) (mRt (mOp1 dictD (mLc [4, 5] (mIt enumI (mSl (mV 3) (mNoP) (mPt (mOp1 negD (mC (.int 1)))))) (.tp [.nm 4, .nm 5]) (mC (.bl true)) (mTup (mArgs [mV 5, mOp2 idxD (mV 3) (mOp2 addD (mV 4) (mC (.int 1)))])))))
def f__law_path {R : Type} (T : Fm R) : Fm R := fnM 6 (m__law_path T)
def m__law_tree {R : Type} (T : Fm R) : MS R := mSeq (mPar [3, 4] [mDct0 false, mLst (mArgs [mV 2])]) (mSeq (mFor (mIt itemsOf (mCall (f__law_mixed T) (mArgs [mV 0, mV 1]))) (.nm 5) (mSeq (mPut 3 (mV 5) (mCall (f__law_pick T) (mArgs [mV 0, mV 4]))) (mEx (mMut 4 isLst appL (mArgs [mV 5]))))) (mRt (mV 3)))
def f__law_tree {R : Type} (T : Fm R) : Fm R := fnM 6 (m__law_tree T)
def m__law_wild {R : Type} (T : Fm R) : MS R := mSeq (mSet 3 (mDct0 false)) (mSeq (mFor (mIt itemsOf (mV 1)) (.nm 4) (mSeq (mSet 5 (mLc [6] (mIt itemsOf (mV 1)) (.nm 6) (mOp2 neD (mV 6) (mV 4)) (mV 6))) (mPut 3 (mV 4) (mCall (f__law_pick T) (mArgs [mV 0, mOp2 addD (mOp2 addD (mV 5) (mV 5)) (mLst (mArgs [mV 2, mV 2, mC .non]))]))))) (mRt (mV 3)))
def f__law_wild {R : Type} (T : Fm R) : Fm R := fnM 7 (m__law_wild T)
def m__law_pair {R : Type} (T : Fm R) : MS R := mSeq (mSet 3 (mCall T (mArgs [mV 0, mC (.int 6)]))) (mSeq (mIte (mOp2 ltD (mV 3) (mC (.int 3))) (mRt (mTup (mArgs [mCall (f__law_tree T) (mArgs [mV 0, mV 1, mV 2]), mCall (f__law_tree T) (mArgs [mV 0, mV 1, mV 2])]))) (mNx)) (mSeq (mIte (mOp2 eqD (mV 3) (mC (.int 3))) (mRt (mTup (mArgs [mCall (f__law_path T) (mArgs [mV 0, mV 1, mV 2]), mCall (f__law_path T) (mArgs [mV 0, mV 1, mV 2])]))) (mNx)) (mSeq (mSet 4 (mIf (mOp2 eqD (mV 3) (mC (.int 4))) (mCall (f__law_tree T) (mArgs [mV 0, mV 1, mV 2])) (mCall (f__law_wild T) (mArgs [mV 0, mV 1, mV 2])))) (mRt (mTup (mArgs [mV 4, mIf (mOp2 eqD (mV 3) (mC (.int 4))) (mCall (f__law_near T) (mArgs [mV 0, mV 4, mV 2])) (mCall (f__law_wild T) (mArgs [mV 0, mV 1, mV 2]))]))))))
def f__law_pair {R : Type} (T : Fm R) : Fm R := fnM 5 (m__law_pair T)
def m__law_words {R : Type} (T : Fm R) : MS R := mSeq (mPar [2, 3] [mC (.str "abcdefghijklmnopqrstuvwxyz"), mLst (mArgs [])]) (mSeq (mSet 4 (mLst (mArgs [mC (.str "a"), mC (.str "b"), mC (.str "goal"), mC (.str "home"), mC (.str "lost"), mC (.str "rings"), mC (.str "posts"), mC (.str "done"), mC (.str "way"), mC (.str "zzzzzz")]))) (mSeq (mFor (mRng1 (mV 1)) (.nm 5) (mSeq (mSet 6 (mCall (f__law_pick T) (mArgs [mV 0, mV 4]))) (mSeq (mIte (mOp2 gtD (mCall T (mArgs [mV 0, mC (.int 3)])) (mC (.int 0))) (mSeq (mSet 7 (mOp2 addD (mC (.int 1)) (mCall T (mArgs [mV 0, mCall (f__law_pick T) (mArgs [mV 0, mLst (mArgs [mC (.int 1), mC (.int 2), mC (.int 6)])])])))) (mSet 6 (mJoin (mC (.str "")) (mLc [10] (mRng1 (mV 7)) (.nm 10) (mC (.bl true)) (mCall (f__law_pick T) (mArgs [mV 0, mV 2])))))) (mNx)) (mSeq (mSet 8 (mOp2 addD (mLst (mArgs [mV 6])) (mLc [9] (mIt itemsOf (mV 2)) (.nm 9) (mC (.bl true)) (mOp2 addD (mSl (mV 6) (mNoP) (mPt (mC (.int 5)))) (mV 9))))) (mEx (mMut 3 isLst appL (mArgs [mOp2 idxD (mLc [11] (mIt itemsOf (mV 8)) (.nm 11) (mOp2 ninD (mV 11) (mV 3)) (mV 11)) (mC (.int 0))]))))))) (mRt (mV 3))))
def f__law_words {R : Type} (T : Fm R) : Fm R := fnM 12 (m__law_words T)
def m__law_model {R : Type} (T : Fm R) : MS R := mSeq (mPar [3, 4] [mOp2 addD (mC (.int 1)) (mCall T (mArgs [mV 0, mV 1])), mOp2 addD (mC (.int 1)) (mCall T (mArgs [mV 0, mV 2]))]) (mSeq (mSet 5 (mCall (f__law_words T) (mArgs [mV 0, mOp2 addD (mV 3) (mV 4)]))) (mSeq (mPar [6, 7] [mOp1 sortF (mSl (mV 5) (mPt (mV 3)) (mNoP)), mDct0 false]) (mSeq (mFor (mIt itemsOf (mOp1 sortF (mSl (mV 5) (mNoP) (mPt (mV 3))))) (.nm 8) (mPut 7 (mV 8) (mCall (f__law_pair T) (mArgs [mV 0, mV 6, mV 8])))) (mSeq (mSet 9 (mOp1 sortF (mSl (mCall (f__law_mixed T) (mArgs [mV 0, mV 6])) (mNoP) (mPt (mCall T (mArgs [mV 0, mOp2 addD (mOp2 min2 (mC (.int 3)) (mV 4)) (mC (.int 1))])))))) (mSeq (mSet 10 (mSl (mCall (f__law_mixed T) (mArgs [mV 0, mV 6])) (mNoP) (mPt (mCall (f__law_pick T) (mArgs [mV 0, mLst (mArgs [mC (.int 0), mC (.int 0), mC (.int 1), mC (.int 1), mC (.int 2)])]))))) (mRt (mDisp ((mC (.str "tables"), mV 7) :: (mC (.str "dots"), mV 6) :: (mC (.str "sources"), mV 9) :: (mC (.str "posts"), mV 10) :: []))))))))
def f__law_model {R : Type} (T : Fm R) : Fm R := fnM 11 (m__law_model T)
def m_Net_does_change {R : Type} (T : Fm R) : MS R := mRt (mOp1 anyD (mLc [2] (mIt valsOf (mOp1 (fldD 0 "own_tables") (mV 0))) (.nm 2) (mC (.bl true)) (mOp2 neD (mOp2 idxD (mOp2 idxD (mV 2) (mC (.int 0))) (mV 1)) (mOp2 idxD (mOp2 idxD (mV 2) (mC (.int 1))) (mV 1)))))
def f_Net_does_change {R : Type} (T : Fm R) : Fm R := fnM 3 (m_Net_does_change T)
def m_is_list {R : Type} (T : Fm R) : MS R := mRt (mOp1 (isiD2 "list" "tuple") (mV 0))
def f_is_list {R : Type} (T : Fm R) : Fm R := fnM 1 (m_is_list T)
def m_are_nodes {R : Type} (T : Fm R) : MS R := mSeq (mIte (mOr (mNot (mCall (f_is_list T) (mArgs [mV 1]))) (mNot (mOp1 allD (mLc [2] (mIt itemsOf (mV 1)) (.nm 2) (mC (.bl true)) (mAnd (mOp1 (isiD "str") (mV 2)) (mOp2 inD (mV 2) (mV 0))))))) (mRt (mC (.bl false))) (mNx)) (mRt (mOp2 eqD (mOp1 lenSetD (mV 1)) (mOp1 lenD (mV 1))))
def f_are_nodes {R : Type} (T : Fm R) : Fm R := fnM 3 (m_are_nodes T)
def m_is_name {R : Type} (T : Fm R) : MS R := mRt (mAnd (mOp1 (isiD "str") (mV 0)) (mAnd (mChain leI leI (mC (.int 1)) (mOp1 lenD (mV 0)) (mC (.int 6))) (mOp1 allD (mLc [1] (mIt itemsOf (mV 0)) (.nm 1) (mC (.bl true)) (mOp2 inD (mV 1) (mC (.str "abcdefghijklmnopqrstuvwxyz")))))))
def f_is_name {R : Type} (T : Fm R) : Fm R := fnM 2 (m_is_name T)
def m_are_names {R : Type} (T : Fm R) : MS R := mRt (mAnd (mOp1 (isiD "dict") (mV 0)) (mAnd (mChain leI leI (mC (.int 1)) (mOp1 lenD (mV 0)) (mV 1)) (mOp1 allD (mLc [2] (mIt itemsOf (mV 0)) (.nm 2) (mC (.bl true)) (mCall (f_is_name T) (mArgs [mV 2]))))))
def f_are_names {R : Type} (T : Fm R) : Fm R := fnM 3 (m_are_names T)
def m_is_place {R : Type} (T : Fm R) : MS R := mSeq (mIte (mOp1 isN (mV 3)) (mRt (mC (.bl true))) (mNx)) (mRt (mAnd (mOp1 (isiD "str") (mV 3)) (mOr (mOp2 eqD (mV 3) (mV 1)) (mAnd (mOp2 inD (mV 3) (mV 0)) (mOp2 neD (mV 3) (mV 2))))))
def f_is_place {R : Type} (T : Fm R) : Fm R := fnM 4 (m_is_place T)
def m_is_table {R : Type} (T : Fm R) : MS R := mSeq (mIte (mOr (mNot (mOp1 (isiD "dict") (mV 2))) (mOr (mOp2 neD (mOp1 lenD (mV 2)) (mOp1 lenD (mV 0))) (mNot (mOp1 allD (mLc [3] (mIt itemsOf (mV 0)) (.nm 3) (mC (.bl true)) (mOp2 inD (mV 3) (mV 2))))))) (mRt (mC (.bl false))) (mNx)) (mRt (mOp1 allD (mLc [3] (mIt itemsOf (mV 0)) (.nm 3) (mC (.bl true)) (mCall (f_is_place T) (mArgs [mV 0, mV 1, mV 3, mOp2 idxD (mV 2) (mV 3)])))))
def f_is_table {R : Type} (T : Fm R) : Fm R := fnM 4 (m_is_table T)
def m_nodes_of {R : Type} (T : Fm R) : MS R := mSeq (mSet 1 (mOp2 idxD (mV 0) (mOp1 minF (mV 0)))) (mSeq (mIte (mOr (mNot (mOp1 (isiD "tuple") (mV 1))) (mOr (mOp2 neD (mOp1 lenD (mV 1)) (mC (.int 2))) (mNot (mCall (f_are_names T) (mArgs [mOp2 idxD (mV 1) (mC (.int 0)), mC (.int 6)]))))) (mRt (mC .non)) (mNx)) (mRt (mOp1 sortF (mOp2 idxD (mV 1) (mC (.int 0))))))
def f_nodes_of {R : Type} (T : Fm R) : Fm R := fnM 2 (m_nodes_of T)
def m_are_tables {R : Type} (T : Fm R) : MS R := mSeq (mIte (mNot (mCall (f_are_names T) (mArgs [mV 0, mC (.int 2)]))) (mRt (mC (.bl false))) (mNx)) (mSeq (mSet 1 (mCall (f_nodes_of T) (mArgs [mV 0]))) (mSeq (mIte (mOr (mOp1 isN (mV 1)) (mOp1 anyD (mLc [4] (mIt itemsOf (mV 1)) (.nm 4) (mC (.bl true)) (mOp2 inD (mV 4) (mV 0))))) (mRt (mC (.bl false))) (mNx)) (mSeq (mFor (mIt itemsOf (mV 0)) (.nm 2) (mSeq (mSet 3 (mOp2 idxD (mV 0) (mV 2))) (mSeq (mIte (mOr (mNot (mOp1 (isiD "tuple") (mV 3))) (mOp2 neD (mOp1 lenD (mV 3)) (mC (.int 2)))) (mRt (mC (.bl false))) (mNx)) (mIte (mOr (mNot (mCall (f_is_table T) (mArgs [mV 1, mV 2, mOp2 idxD (mV 3) (mC (.int 0))]))) (mNot (mCall (f_is_table T) (mArgs [mV 1, mV 2, mOp2 idxD (mV 3) (mC (.int 1))])))) (mRt (mC (.bl false))) (mNx))))) (mRt (mC (.bl true))))))
def f_are_tables {R : Type} (T : Fm R) : Fm R := fnM 5 (m_are_tables T)
def m_ordered {R : Type} (T : Fm R) : MS R := mRt (mDc [1] (mIt itemsOf (mOp1 sortF (mV 0))) (.nm 1) (mC (.bl true)) (mV 1) (mOp2 idxD (mV 0) (mV 1)))
def f_ordered {R : Type} (T : Fm R) : Fm R := fnM 2 (m_ordered T)
def m_Net___init__ {R : Type} (T : Fm R) : MS R := mSeq (mIte (mNot (mCall (f_are_tables T) (mArgs [mV 1]))) (mSeq (mNo) (mNx)) (mNx)) (mSeq (mSet 4 (mCall (f_nodes_of T) (mArgs [mV 1]))) (mSeq (mIte (mNot (mCall (f_are_nodes T) (mArgs [mV 4, mV 2]))) (mSeq (mNo) (mNx)) (mNx)) (mSeq (mIte (mOr (mNot (mCall (f_are_nodes T) (mArgs [mV 4, mV 3]))) (mOp2 gtD (mOp1 lenD (mV 3)) (mC (.int 2)))) (mSeq (mNo) (mNx)) (mNx)) (mSeq (mFld 0 0 "own_tables" (mDc [5] (mIt itemsOf (mOp1 sortG (mV 1))) (.nm 5) (mC (.bl true)) (mV 5) (mTup (mArgs [mCall (f_ordered T) (mArgs [mOp2 idxD (mOp2 idxD (mV 1) (mV 5)) (mC (.int 0))]), mCall (f_ordered T) (mArgs [mOp2 idxD (mOp2 idxD (mV 1) (mV 5)) (mC (.int 1))])])))) (mSeq (mFld 0 0 "own_goals" (mOp1 tup1 (mOp1 (fldD 0 "own_tables") (mV 0)))) (mSeq (mFld 0 0 "own_nodes" (mOp1 tup1 (mV 4))) (mSeq (mFld 0 0 "own_sources" (mOp1 tup1 (mOp1 sortG (mV 2)))) (mSeq (mFld 0 0 "own_posts" (mOp1 tup1 (mV 3))) (mSeq (mFld 0 0 "own_changing" (mOp1 tup1 (mLc [6] (mIt itemsOf (mV 4)) (.nm 6) (mMeth 0 "does_change" (f_Net_does_change T) (mV 0) (mArgs [mV 6])) (mV 6)))) (mNx))))))))))
def i_Net___init__ {R : Type} (T : Fm R) : Im R := fnI 0 7 (m_Net___init__ T)
def m__law_net {R : Type} (T : Fm R) : MS R := mRt (mMake 0 (i_Net___init__ T) (mArgs [mOp2 idxD (mV 0) (mC (.str "tables")), mOp2 idxD (mV 0) (mC (.str "sources")), mOp2 idxD (mV 0) (mC (.str "posts"))]))
def f__law_net {R : Type} (T : Fm R) : Fm R := fnM 1 (m__law_net T)
def m__law_moving_dots {R : Type} (T : Fm R) : MS R := mSeq (mSet 1 (mLst (mArgs []))) (mSeq (mFor (mIt itemsOf (mOp2 idxD (mV 0) (mC (.str "dots")))) (.nm 2) (mIte (mOp2 neD (mLc [3, 4] (mIt valsOf (mOp2 idxD (mV 0) (mC (.str "tables")))) (.tp [.nm 3, .nm 4]) (mOp2 neD (mOp2 idxD (mV 3) (mV 2)) (mOp2 idxD (mV 4) (mV 2))) (mC (.int 1))) (mLst (mArgs []))) (mEx (mMut 1 isLst appL (mArgs [mV 2]))) (mNx))) (mRt (mV 1)))
def f__law_moving_dots {R : Type} (T : Fm R) : Fm R := fnM 5 (m__law_moving_dots T)
def m__law_round {R : Type} (T : Fm R) : MS R := mSeq (mSet 2 (mCall (f__law_mixed T) (mArgs [mV 0, mCall (f__law_moving_dots T) (mArgs [mV 1])]))) (mSeq (mSet 3 (mCall T (mArgs [mV 0, mOp2 addD (mOp1 lenD (mV 2)) (mC (.int 1))]))) (mSeq (mSet 4 (mSl (mV 2) (mPt (mV 3)) (mNoP))) (mSeq (mSet 5 (mCall (f__law_pick T) (mArgs [mV 0, mLst (mArgs [mOp1 lenD (mV 4), mCall T (mArgs [mV 0, mOp2 addD (mOp1 lenD (mV 4)) (mC (.int 1))])])]))) (mRt (mTup (mArgs [mOp1 tup1 (mOp1 sortF (mSl (mV 2) (mNoP) (mPt (mV 3)))), mOp1 tup1 (mOp1 sortF (mSl (mV 4) (mNoP) (mPt (mV 5))))]))))))
def f__law_round {R : Type} (T : Fm R) : Fm R := fnM 6 (m__law_round T)
def m_is_lot {R : Type} (T : Fm R) : MS R := mSeq (mIte (mOr (mNot (mOp1 (isiD "tuple") (mV 1))) (mNot (mOp1 allD (mLc [4] (mIt itemsOf (mV 1)) (.nm 4) (mC (.bl true)) (mAnd (mOp1 (isiD "str") (mV 4)) (mOp2 inD (mV 4) (mOp1 (fldD 0 "own_changing") (mV 0)))))))) (mRt (mC (.bl false))) (mNx)) (mRt (mOp1 allD (mLc [2, 3] (mZip (mArgs [mV 1, mSl (mV 1) (mPt (mC (.int 1))) (mNoP)])) (.tp [.nm 2, .nm 3]) (mC (.bl true)) (mOp2 ltD (mV 2) (mV 3)))))
def f_is_lot {R : Type} (T : Fm R) : Fm R := fnM 5 (m_is_lot T)
def m_need_done {R : Type} (T : Fm R) : MS R := mIte (mNot (mCall (f_is_lot T) (mArgs [mV 0, mV 1]))) (mNo) (mNx)
def f_need_done {R : Type} (T : Fm R) : Fm R := fnM 2 (m_need_done T)
def m_need_goal {R : Type} (T : Fm R) : MS R := mIte (mOr (mNot (mOp1 (isiD "str") (mV 1))) (mOp2 ninD (mV 1) (mOp1 (fldD 0 "own_goals") (mV 0)))) (mNo) (mNx)
def f_need_goal {R : Type} (T : Fm R) : Fm R := fnM 2 (m_need_goal T)
def m_need_net {R : Type} (T : Fm R) : MS R := mIte (mNot (mOp1 (isiC 0) (mV 0))) (mNo) (mNx)
def f_need_net {R : Type} (T : Fm R) : Fm R := fnM 1 (m_need_net T)
def m_need_node {R : Type} (T : Fm R) : MS R := mIte (mOr (mNot (mOp1 (isiD "str") (mV 1))) (mOp2 ninD (mV 1) (mOp1 (fldD 0 "own_nodes") (mV 0)))) (mNo) (mNx)
def f_need_node {R : Type} (T : Fm R) : Fm R := fnM 2 (m_need_node T)
def m__law_rings {R : Type} (T : Fm R) : MS R := mSeq (mPar [1, 2] [mLst (mArgs []), mLc [6] (mIt itemsOf (mV 0)) (.nm 6) (mC (.bl true)) (mTup (mArgs [mV 6]))]) (mSeq (mWhile (mOp2 neD (mV 2) (mLst (mArgs []))) (mSeq (mSet 3 (mMut 2 isLst popL (mArgs []))) (mFor (mIt itemsOf (mOp2 idxD (mV 0) (mOp2 idxD (mV 3) (mOp1 negD (mC (.int 1)))))) (.nm 4) (mIte (mOp2 eqD (mV 4) (mOp2 idxD (mV 3) (mC (.int 0)))) (mEx (mMut 1 isLst appL (mArgs [mV 3]))) (mIte (mAnd (mOp2 inD (mV 4) (mV 0)) (mAnd (mOp2 ninD (mV 4) (mV 3)) (mOp2 gtD (mV 4) (mOp2 idxD (mV 3) (mC (.int 0)))))) (mEx (mMut 2 isLst appL (mArgs [mOp2 addD (mV 3) (mTup (mArgs [mV 4]))]))) (mNx)))))) (mRt (mLc [5, 3] (mIt itemsOf (mOp1 sortF (mLc [3] (mIt itemsOf (mV 1)) (.nm 3) (mC (.bl true)) (mTup (mArgs [mOp1 lenD (mV 3), mV 3]))))) (.tp [.nm 5, .nm 3]) (mC (.bl true)) (mV 3))))
def f__law_rings {R : Type} (T : Fm R) : Fm R := fnM 7 (m__law_rings T)
def m__law_web {R : Type} (T : Fm R) : MS R := mSeq (mUnp (.tp [.nm 4, .nm 5]) (mOp2 idxD (mOp2 idxD (mV 0) (mC (.str "tables"))) (mV 1))) (mSeq (mSet 6 (mDct0 false)) (mSeq (mFor (mIt itemsOf (mOp2 idxD (mV 0) (mC (.str "dots")))) (.nm 7) (mSeq (mSet 8 (mIf (mOp2 inD (mV 7) (mV 2)) (mLst (mArgs [mOp2 idxD (mV 5) (mV 7)])) (mLst (mArgs [mOp2 idxD (mV 4) (mV 7)])))) (mPut 6 (mV 7) (mOp2 addD (mV 8) (mOp2 mulD (mLst (mArgs [mOp2 idxD (mV 5) (mV 7)])) (mOp1 intD (mAnd (mOp2 inD (mV 7) (mV 3)) (mOp2 neD (mOp2 idxD (mV 5) (mV 7)) (mOp2 idxD (mV 4) (mV 7)))))))))) (mRt (mV 6))))
def f__law_web {R : Type} (T : Fm R) : Fm R := fnM 9 (m__law_web T)
def m_mixture {R : Type} (T : Fm R) : MS R := mSeq (mUnp (.tp [.nm 4, .nm 5]) (mOp2 idxD (mOp1 (fldD 0 "own_tables") (mV 0)) (mV 3))) (mSeq (mSet 6 (mDct0 false)) (mSeq (mFor (mIt itemsOf (mOp1 (fldD 0 "own_nodes") (mV 0))) (.nm 7) (mIte (mOp2 inD (mV 7) (mV 1)) (mPut 6 (mV 7) (mLst (mArgs [mOp2 idxD (mV 5) (mV 7)]))) (mIte (mAnd (mOp2 inD (mV 7) (mV 2)) (mOp2 neD (mOp2 idxD (mV 5) (mV 7)) (mOp2 idxD (mV 4) (mV 7)))) (mPut 6 (mV 7) (mLst (mArgs [mOp2 idxD (mV 4) (mV 7), mOp2 idxD (mV 5) (mV 7)]))) (mPut 6 (mV 7) (mLst (mArgs [mOp2 idxD (mV 4) (mV 7)])))))) (mRt (mV 6))))
def f_mixture {R : Type} (T : Fm R) : Fm R := fnM 8 (m_mixture T)
def m_need_round {R : Type} (T : Fm R) : MS R := mSeq (mEx (mCall (f_need_net T) (mArgs [mV 0]))) (mSeq (mEx (mCall (f_need_done T) (mArgs [mV 0, mV 1]))) (mIte (mOr (mNot (mCall (f_is_lot T) (mArgs [mV 0, mV 2]))) (mOp1 anyD (mLc [3] (mIt itemsOf (mV 2)) (.nm 3) (mC (.bl true)) (mOp2 inD (mV 3) (mV 1))))) (mNo) (mNx)))
def f_need_round {R : Type} (T : Fm R) : Fm R := fnM 4 (m_need_round T)
def m_next_nodes {R : Type} (T : Fm R) : MS R := mRt (mLc [2] (mIt itemsOf (mOp2 idxD (mV 0) (mV 1))) (.nm 2) (mOp2 inD (mV 2) (mV 0)) (mV 2))
def f_next_nodes {R : Type} (T : Fm R) : Fm R := fnM 3 (m_next_nodes T)
def m_rings_from {R : Type} (T : Fm R) : MS R := mSeq (mSet 3 (mLst (mArgs [mTup (mArgs [mV 1])]))) (mSeq (mFor (mRng1 (mOp2 (o2I fun i j => some (.int (i - j))) (mV 2) (mC (.int 1)))) (.nm 4) (mSeq (mSet 5 (mLst (mArgs []))) (mSeq (mFor (mIt itemsOf (mV 3)) (.nm 6) (mEx (mMut 5 isLst extL (mArgs [mLc [7] (mIt itemsOf (mCall (f_next_nodes T) (mArgs [mV 0, mOp2 idxD (mV 6) (mOp1 negD (mC (.int 1)))]))) (.nm 7) (mAnd (mOp2 gtD (mV 7) (mV 1)) (mOp2 ninD (mV 7) (mV 6))) (mStarT (mV 6) (mArgs [mV 7]))])))) (mSet 3 (mV 5))))) (mRt (mLc [6] (mIt itemsOf (mV 3)) (.nm 6) (mOp2 inD (mV 1) (mOp2 idxD (mV 0) (mOp2 idxD (mV 6) (mOp1 negD (mC (.int 1)))))) (mV 6))))
def f_rings_from {R : Type} (T : Fm R) : Fm R := fnM 8 (m_rings_from T)
def m_ring_in {R : Type} (T : Fm R) : MS R := mSeq (mFor (mRng2 (mC (.int 2)) (mOp2 addD (mOp1 lenD (mV 0)) (mC (.int 1)))) (.nm 1) (mSeq (mSet 2 (mLst (mArgs []))) (mSeq (mFor (mIt itemsOf (mV 0)) (.nm 3) (mEx (mMut 2 isLst extL (mArgs [mCall (f_rings_from T) (mArgs [mV 0, mV 3, mV 1])])))) (mIte (mOp2 gtD (mOp1 lenD (mV 2)) (mC (.int 0))) (mRt (mOp1 minF (mV 2))) (mNx))))) (mRt (mC .non))
def f_ring_in {R : Type} (T : Fm R) : Fm R := fnM 4 (m_ring_in T)
def m_ring {R : Type} (T : Fm R) : MS R := mSeq (mEx (mCall (f_need_round T) (mArgs [mV 0, mV 1, mV 2]))) (mSeq (mEx (mCall (f_need_goal T) (mArgs [mV 0, mV 3]))) (mRt (mCall (f_ring_in T) (mArgs [mCall (f_mixture T) (mArgs [mV 0, mV 1, mV 2, mV 3])]))))
def f_ring {R : Type} (T : Fm R) : Fm R := fnM 4 (m_ring T)
def m_ways {R : Type} (T : Fm R) : MS R := mSeq (mEx (mCall (f_need_round T) (mArgs [mV 0, mV 1, mV 2]))) (mSeq (mEx (mCall (f_need_goal T) (mArgs [mV 0, mV 3]))) (mRt (mCall (f_mixture T) (mArgs [mV 0, mV 1, mV 2, mV 3]))))
def f_ways {R : Type} (T : Fm R) : Fm R := fnM 4 (m_ways T)
def m_blendR : MS Unit := mSeq (mSet 2 (mC (.int 0))) (mSeq (mFor (mIt itemsOf (mLst (mArgs [mC (.int 2147483629), mC (.int 2147483587), mC (.int 2147483579), mC (.int 2147483563)]))) (.nm 3) (mSeq (mSet 4 (mOp2 (o2I iMod) (mOp1 intD (mOp2 addD (mOp2 mulD (mV 1) (mC (.int 69621))) (mOp2 (o2I iDiv) (mV 3) (mC (.int 7))))) (mV 3))) (mSeq (mFor (mIt itemsOf (mOp2 idxD (mV 0) (mC (.str "cells")))) (.nm 5) (mSet 4 (mOp2 (o2I iMod) (mOp1 intD (mOp2 addD (mOp2 mulD (mV 4) (mC (.int 48271))) (mV 5))) (mV 3)))) (mSet 2 (mOp2 addD (mOp2 mulD (mV 2) (mC (.int 2147483647))) (mOp2 (o2I iMod) (mOp1 intD (mOp2 (o2I iPow) (mV 4) (mC (.int 5)))) (mV 3))))))) (mRt (mV 2)))
def m_blend : MS Dr := mSeq (mSet 1 (mOp2 addD (mRG 0 Dr.turn) (mC (.int 1)))) (mSeq (mRP 0 (fun r n => { r with turn := n }) (mV 1)) (mFrz m_blendR))
def f_blend : Fm Dr := fnM 6 m_blend
def m_take (b : Bool) : MS Dr := mSeq (mIte (mAnd (mOp2 eqD (mRG 0 Dr.rest) (mC (.int 0))) (mRB 0 fun r => !decide (r.great = []))) (mRP 0 (fun r n => { r with rest := n }) (mRPop b 0)) mNx) (mSeq (mIte (mOp2 eqD (mRG 0 Dr.rest) (mC (.int 0))) (mRP 0 (fun r n => { r with rest := n }) (mCall f_blend (mArgs [mV 0]))) mNx) (mSeq (mSet 2 (mOp2 (o2I iMod) (mOp1 intD (mRG 0 Dr.rest)) (mV 1))) (mSeq (mRP 0 (fun r n => { r with rest := n }) (mOp2 (o2I iDiv) (mRG 0 Dr.rest) (mV 1))) (mRt (mV 2)))))
def f_take (b : Bool) : Fm Dr := fnM 3 (m_take b)
def m_begin1 : MS Unit := mSet 1 (mCall (f__law_begin fun _ _ => none) (mArgs [mV 0]))
end RW
namespace RW
open PySem L2
def t_Net_tables {R : Type} (T : Fm R) : Ft R := fnT 3 (mDcG [1, 2] (mIt pairsOf (mOp1 (fldD 0 "own_tables") (mV 0))) (.tp [.nm 1, .nm 2]) (mV 1) (mOp1 dictD (mOp2 idxD (mV 2) (mC (.int 0)))) (mOp1 dictD (mOp2 idxD (mV 2) (mC (.int 1)))))
def m_Net_with_way {R : Type} (T : Fm R) : MS R := mSeq (mEx (mCall (f_need_goal T) (mArgs [mV 0, mV 1]))) (mSeq (mEx (mCall (f_need_node T) (mArgs [mV 0, mV 2]))) (mSeq (mIte (mNot (mCall (f_is_place T) (mArgs [mOp1 (fldD 0 "own_nodes") (mV 0), mV 1, mV 2, mV 4]))) (mNo) (mNx)) (mSeq (mTabs 0 0 5 1 2 (t_Net_tables T) (mIf (mV 3) (mC (.int 1)) (mC (.int 0))) (mV 4)) (mRt (mMake 0 (i_Net___init__ T) (mArgs [mV 5, mOp1 (fldD 0 "own_sources") (mV 0), mOp1 (fldD 0 "own_posts") (mV 0)]))))))
def f_Net_with_way {R : Type} (T : Fm R) : Fm R := fnM 6 (m_Net_with_way T)
def m__law_are_moving {R : Type} (T : Fm R) : MS R := mRt (mOp2 eqD (mLc [2] (mIt itemsOf (mV 1)) (.nm 2) (mOp2 ninD (mV 2) (mCall (f__law_moving_dots T) (mArgs [mV 0]))) (mV 2)) (mLst (mArgs [])))
def f__law_are_moving {R : Type} (T : Fm R) : Fm R := fnM 3 (m__law_are_moving T)
def m__law_other {R : Type} (T : Fm R) : MS R := mSeq (mPar [2, 3, 4] [mOp1 dictD (mV 1), mCall (f__law_pick T) (mArgs [mV 0, mOp1 sortF (mOp2 idxD (mV 1) (mC (.str "tables")))]), mCall (f__law_pick T) (mArgs [mV 0, mOp2 idxD (mV 1) (mC (.str "dots"))])]) (mSeq (mSet 5 (mCall T (mArgs [mV 0, mC (.int 2)]))) (mSeq (mRows 6 7 5 4 [8] (mIt itemsOf (mOp2 idxD (mOp2 idxD (mV 1) (mC (.str "tables"))) (mV 3))) (.nm 8) (mOp1 dictD (mV 8)) (mLc [9] (mIt itemsOf (mOp2 addD (mOp2 idxD (mV 1) (mC (.str "dots"))) (mLst (mArgs [mV 3, mC .non])))) (.nm 9) (mOp2 ninD (mV 9) (mLst (mArgs [mV 4, mOp2 idxD (mOp2 idxD (mV 6) (mV 5)) (mV 4)]))) (mV 9)) (mCall (f__law_pick T) (mArgs [mV 0, mV 7]))) (mSeq (mPutP 2 3 "tables" (mOp1 dictD (mOp2 idxD (mV 1) (mC (.str "tables")))) (mOp1 tup1 (mV 6))) (mRt (mTup (mArgs [mV 2, mV 3, mV 4, mOp2 eqD (mV 5) (mC (.int 1)), mOp2 idxD (mOp2 idxD (mV 6) (mV 5)) (mV 4)]))))))
def f__law_other {R : Type} (T : Fm R) : Fm R := fnM 10 (m__law_other T)
def m__law_other_right {R : Type} (T : Fm R) : MS R := mSeq (mUnp (.tp [.nm 5, .nm 6, .nm 7, .nm 8, .nm 9]) (mCall (f__law_other T) (mArgs [mV 0, mV 1]))) (mSeq (mIte (mNot (mCall (f__law_are_moving T) (mArgs [mV 5, mOp2 addD (mV 3) (mV 4)]))) (mRt (mC (.bl true))) (mNx)) (mSeq (mPar [10, 11] [mMeth 0 "with_way" (f_Net_with_way T) (mV 2) (mArgs [mV 6, mV 7, mV 8, mV 9]), mCall (f__law_web T) (mArgs [mV 5, mV 6, mV 3, mV 4])]) (mSeq (mSet 12 (mCall (f__law_rings T) (mArgs [mV 11]))) (mSeq (mSet 13 (mIf (mOp2 neD (mV 12) (mLst (mArgs []))) (mOp2 idxD (mV 12) (mC (.int 0))) (mC .non))) (mRt (mOp2 eqD (mOp1 reprD (mLst (mArgs [mCall (f_ring T) (mArgs [mV 10, mV 3, mV 4, mV 6]), mCall (f_ways T) (mArgs [mV 10, mV 3, mV 4, mV 6])]))) (mOp1 reprD (mLst (mArgs [mV 13, mV 11])))))))))
def f__law_other_right {R : Type} (T : Fm R) : Fm R := fnM 14 (m__law_other_right T)
end RW
namespace RW
open PySem L2
def m_law_k06 (T : Fm Dr) : MS Dr := mSeq (mFor (mRng1 (mOp2 addD (mC (.int 8)) (mOp2 min2 (mOp1 lenD (mV 0)) (mC (.int 30))))) (.nm 2) (mSeq (mSet 3 (mCall (f__law_model T) (mArgs [mV 1, mC (.int 2), mC (.int 6)]))) (mSeq (mSet 4 (mCall (f__law_net T) (mArgs [mV 3]))) (mFor (mRng1 (mC (.int 3))) (.nm 5) (mSeq (mUnp (.tp [.nm 6, .nm 7]) (mCall (f__law_round T) (mArgs [mV 1, mV 3]))) (mSeq (mFor (mIt itemsOf (mOp2 idxD (mV 3) (mC (.str "tables")))) (.nm 8) (mSeq (mSet 9 (mCall (f__law_rings T) (mArgs [mCall (f__law_web T) (mArgs [mV 3, mV 8, mV 6, mV 7])]))) (mSeq (mSet 10 (mIf (mOp2 neD (mV 9) (mLst (mArgs []))) (mOp2 idxD (mV 9) (mC (.int 0))) (mC .non))) (mFor (mIt itemsOf (mLst (mArgs [mCall (f_ring T) (mArgs [mV 4, mV 6, mV 7, mV 8]), mCallK [3, 2, 1, 0] (f_ring T) (mArgs [mV 8, mV 7, mV 6, mV 4])]))) (.nm 11) (mIte (mOp2 neD (mOp1 reprD (mV 11)) (mOp1 reprD (mV 10))) (mRt (mC (.bl false))) (mNx)))))) (mIte (mNot (mCall (f__law_other_right T) (mArgs [mV 1, mV 3, mV 4, mV 6, mV 7]))) (mRt (mC (.bl false))) (mNx)))))))) (mRt (mC (.bl true)))
end RW
set_option maxHeartbeats 0
namespace RW
open PySem L2
section
variable {g : G} {P : Program} {w : World} {mg : Str → Option Value} {base h : Heap}
theorem G_is_list (kin : g.K.In h) (gn : h.Ns mainGlobals mg) (c : He.SaysD fa fn g.K) : mg "is_list" = some (.ref (He.ga g.K "is_list")) := He.glo_ok kin gn (c.fact 6 (f := .glo "is_list") rfl)
theorem G_is_name (kin : g.K.In h) (gn : h.Ns mainGlobals mg) (c : He.SaysD fa fn g.K) : mg "is_name" = some (.ref (He.ga g.K "is_name")) := He.glo_ok kin gn (c.fact 7 (f := .glo "is_name") rfl)
theorem G_are_names (kin : g.K.In h) (gn : h.Ns mainGlobals mg) (c : He.SaysD fa fn g.K) : mg "are_names" = some (.ref (He.ga g.K "are_names")) := He.glo_ok kin gn (c.fact 8 (f := .glo "are_names") rfl)
theorem G_is_place (kin : g.K.In h) (gn : h.Ns mainGlobals mg) (c : He.SaysD fa fn g.K) : mg "is_place" = some (.ref (He.ga g.K "is_place")) := He.glo_ok kin gn (c.fact 9 (f := .glo "is_place") rfl)
theorem G_is_table (kin : g.K.In h) (gn : h.Ns mainGlobals mg) (c : He.SaysD fa fn g.K) : mg "is_table" = some (.ref (He.ga g.K "is_table")) := He.glo_ok kin gn (c.fact 10 (f := .glo "is_table") rfl)
theorem G_nodes_of (kin : g.K.In h) (gn : h.Ns mainGlobals mg) (c : He.SaysD fa fn g.K) : mg "nodes_of" = some (.ref (He.ga g.K "nodes_of")) := He.glo_ok kin gn (c.fact 11 (f := .glo "nodes_of") rfl)
theorem G_are_tables (kin : g.K.In h) (gn : h.Ns mainGlobals mg) (c : He.SaysD fa fn g.K) : mg "are_tables" = some (.ref (He.ga g.K "are_tables")) := He.glo_ok kin gn (c.fact 12 (f := .glo "are_tables") rfl)
theorem G_are_nodes (kin : g.K.In h) (gn : h.Ns mainGlobals mg) (c : He.SaysD fa fn g.K) : mg "are_nodes" = some (.ref (He.ga g.K "are_nodes")) := He.glo_ok kin gn (c.fact 13 (f := .glo "are_nodes") rfl)
theorem G_ordered (kin : g.K.In h) (gn : h.Ns mainGlobals mg) (c : He.SaysD fa fn g.K) : mg "ordered" = some (.ref (He.ga g.K "ordered")) := He.glo_ok kin gn (c.fact 14 (f := .glo "ordered") rfl)
theorem G_Net (kin : g.K.In h) (gn : h.Ns mainGlobals mg) (c : He.SaysD fa fn g.K) : mg "Net" = some (.ref (He.ga g.K "Net")) := He.glo_ok kin gn (c.fact 15 (f := .glo "Net") rfl)
theorem G_need_net (kin : g.K.In h) (gn : h.Ns mainGlobals mg) (c : He.SaysD fa fn g.K) : mg "need_net" = some (.ref (He.ga g.K "need_net")) := He.glo_ok kin gn (c.fact 16 (f := .glo "need_net") rfl)
theorem G_need_goal (kin : g.K.In h) (gn : h.Ns mainGlobals mg) (c : He.SaysD fa fn g.K) : mg "need_goal" = some (.ref (He.ga g.K "need_goal")) := He.glo_ok kin gn (c.fact 17 (f := .glo "need_goal") rfl)
theorem G_need_node (kin : g.K.In h) (gn : h.Ns mainGlobals mg) (c : He.SaysD fa fn g.K) : mg "need_node" = some (.ref (He.ga g.K "need_node")) := He.glo_ok kin gn (c.fact 18 (f := .glo "need_node") rfl)
theorem G_is_lot (kin : g.K.In h) (gn : h.Ns mainGlobals mg) (c : He.SaysD fa fn g.K) : mg "is_lot" = some (.ref (He.ga g.K "is_lot")) := He.glo_ok kin gn (c.fact 19 (f := .glo "is_lot") rfl)
theorem G_need_done (kin : g.K.In h) (gn : h.Ns mainGlobals mg) (c : He.SaysD fa fn g.K) : mg "need_done" = some (.ref (He.ga g.K "need_done")) := He.glo_ok kin gn (c.fact 20 (f := .glo "need_done") rfl)
theorem G_need_round (kin : g.K.In h) (gn : h.Ns mainGlobals mg) (c : He.SaysD fa fn g.K) : mg "need_round" = some (.ref (He.ga g.K "need_round")) := He.glo_ok kin gn (c.fact 21 (f := .glo "need_round") rfl)
theorem G_mixture (kin : g.K.In h) (gn : h.Ns mainGlobals mg) (c : He.SaysD fa fn g.K) : mg "mixture" = some (.ref (He.ga g.K "mixture")) := He.glo_ok kin gn (c.fact 22 (f := .glo "mixture") rfl)
theorem G_next_nodes (kin : g.K.In h) (gn : h.Ns mainGlobals mg) (c : He.SaysD fa fn g.K) : mg "next_nodes" = some (.ref (He.ga g.K "next_nodes")) := He.glo_ok kin gn (c.fact 23 (f := .glo "next_nodes") rfl)
theorem G_ways (kin : g.K.In h) (gn : h.Ns mainGlobals mg) (c : He.SaysD fa fn g.K) : mg "ways" = some (.ref (He.ga g.K "ways")) := He.glo_ok kin gn (c.fact 24 (f := .glo "ways") rfl)
theorem G_rings_from (kin : g.K.In h) (gn : h.Ns mainGlobals mg) (c : He.SaysD fa fn g.K) : mg "rings_from" = some (.ref (He.ga g.K "rings_from")) := He.glo_ok kin gn (c.fact 25 (f := .glo "rings_from") rfl)
theorem G_ring_in (kin : g.K.In h) (gn : h.Ns mainGlobals mg) (c : He.SaysD fa fn g.K) : mg "ring_in" = some (.ref (He.ga g.K "ring_in")) := He.glo_ok kin gn (c.fact 26 (f := .glo "ring_in") rfl)
theorem G_ring (kin : g.K.In h) (gn : h.Ns mainGlobals mg) (c : He.SaysD fa fn g.K) : mg "ring" = some (.ref (He.ga g.K "ring")) := He.glo_ok kin gn (c.fact 27 (f := .glo "ring") rfl)
theorem G__law_begin (kin : g.K.In h) (gn : h.Ns mainGlobals mg) (c : He.SaysD fa fn g.K) : mg "_law_begin" = some (.ref (He.ga g.K "_law_begin")) := He.glo_ok kin gn (c.fact 28 (f := .glo "_law_begin") rfl)
theorem G__law_blend (kin : g.K.In h) (gn : h.Ns mainGlobals mg) (c : He.SaysD fa fn g.K) : mg "_law_blend" = some (.ref (He.ga g.K "_law_blend")) := He.glo_ok kin gn (c.fact 29 (f := .glo "_law_blend") rfl)
theorem G__law_pick (kin : g.K.In h) (gn : h.Ns mainGlobals mg) (c : He.SaysD fa fn g.K) : mg "_law_pick" = some (.ref (He.ga g.K "_law_pick")) := He.glo_ok kin gn (c.fact 30 (f := .glo "_law_pick") rfl)
theorem G__law_mixed (kin : g.K.In h) (gn : h.Ns mainGlobals mg) (c : He.SaysD fa fn g.K) : mg "_law_mixed" = some (.ref (He.ga g.K "_law_mixed")) := He.glo_ok kin gn (c.fact 31 (f := .glo "_law_mixed") rfl)
theorem G__law_take (kin : g.K.In h) (gn : h.Ns mainGlobals mg) (c : He.SaysD fa fn g.K) : mg "_law_take" = some (.ref (He.ga g.K "_law_take")) := He.glo_ok kin gn (c.fact 32 (f := .glo "_law_take") rfl)
theorem G__law_words (kin : g.K.In h) (gn : h.Ns mainGlobals mg) (c : He.SaysD fa fn g.K) : mg "_law_words" = some (.ref (He.ga g.K "_law_words")) := He.glo_ok kin gn (c.fact 33 (f := .glo "_law_words") rfl)
theorem G__law_tree (kin : g.K.In h) (gn : h.Ns mainGlobals mg) (c : He.SaysD fa fn g.K) : mg "_law_tree" = some (.ref (He.ga g.K "_law_tree")) := He.glo_ok kin gn (c.fact 34 (f := .glo "_law_tree") rfl)
theorem G__law_path (kin : g.K.In h) (gn : h.Ns mainGlobals mg) (c : He.SaysD fa fn g.K) : mg "_law_path" = some (.ref (He.ga g.K "_law_path")) := He.glo_ok kin gn (c.fact 35 (f := .glo "_law_path") rfl)
theorem G__law_wild (kin : g.K.In h) (gn : h.Ns mainGlobals mg) (c : He.SaysD fa fn g.K) : mg "_law_wild" = some (.ref (He.ga g.K "_law_wild")) := He.glo_ok kin gn (c.fact 36 (f := .glo "_law_wild") rfl)
theorem G__law_near (kin : g.K.In h) (gn : h.Ns mainGlobals mg) (c : He.SaysD fa fn g.K) : mg "_law_near" = some (.ref (He.ga g.K "_law_near")) := He.glo_ok kin gn (c.fact 37 (f := .glo "_law_near") rfl)
theorem G__law_pair (kin : g.K.In h) (gn : h.Ns mainGlobals mg) (c : He.SaysD fa fn g.K) : mg "_law_pair" = some (.ref (He.ga g.K "_law_pair")) := He.glo_ok kin gn (c.fact 38 (f := .glo "_law_pair") rfl)
theorem G__law_model (kin : g.K.In h) (gn : h.Ns mainGlobals mg) (c : He.SaysD fa fn g.K) : mg "_law_model" = some (.ref (He.ga g.K "_law_model")) := He.glo_ok kin gn (c.fact 39 (f := .glo "_law_model") rfl)
theorem G__law_net (kin : g.K.In h) (gn : h.Ns mainGlobals mg) (c : He.SaysD fa fn g.K) : mg "_law_net" = some (.ref (He.ga g.K "_law_net")) := He.glo_ok kin gn (c.fact 40 (f := .glo "_law_net") rfl)
theorem G__law_moving_dots (kin : g.K.In h) (gn : h.Ns mainGlobals mg) (c : He.SaysD fa fn g.K) : mg "_law_moving_dots" = some (.ref (He.ga g.K "_law_moving_dots")) := He.glo_ok kin gn (c.fact 41 (f := .glo "_law_moving_dots") rfl)
theorem G__law_web (kin : g.K.In h) (gn : h.Ns mainGlobals mg) (c : He.SaysD fa fn g.K) : mg "_law_web" = some (.ref (He.ga g.K "_law_web")) := He.glo_ok kin gn (c.fact 42 (f := .glo "_law_web") rfl)
theorem G__law_round (kin : g.K.In h) (gn : h.Ns mainGlobals mg) (c : He.SaysD fa fn g.K) : mg "_law_round" = some (.ref (He.ga g.K "_law_round")) := He.glo_ok kin gn (c.fact 43 (f := .glo "_law_round") rfl)
theorem G__law_rings (kin : g.K.In h) (gn : h.Ns mainGlobals mg) (c : He.SaysD fa fn g.K) : mg "_law_rings" = some (.ref (He.ga g.K "_law_rings")) := He.glo_ok kin gn (c.fact 44 (f := .glo "_law_rings") rfl)
theorem G__law_other (kin : g.K.In h) (gn : h.Ns mainGlobals mg) (c : He.SaysD fa fn g.K) : mg "_law_other" = some (.ref (He.ga g.K "_law_other")) := He.glo_ok kin gn (c.fact 45 (f := .glo "_law_other") rfl)
theorem G__law_are_moving (kin : g.K.In h) (gn : h.Ns mainGlobals mg) (c : He.SaysD fa fn g.K) : mg "_law_are_moving" = some (.ref (He.ga g.K "_law_are_moving")) := He.glo_ok kin gn (c.fact 46 (f := .glo "_law_are_moving") rfl)
theorem G__law_other_right (kin : g.K.In h) (gn : h.Ns mainGlobals mg) (c : He.SaysD fa fn g.K) : mg "_law_other_right" = some (.ref (He.ga g.K "_law_other_right")) := He.glo_ok kin gn (c.fact 47 (f := .glo "_law_other_right") rfl)
theorem G_law (kin : g.K.In h) (gn : h.Ns mainGlobals mg) (c : He.SaysD fa fn g.K) : mg "law" = some (.ref (He.ga g.K "law")) := He.glo_ok kin gn (c.fact 48 (f := .glo "law") rfl)
theorem V_LETTERS (kin : g.K.In h) (gn : h.Ns mainGlobals mg) (c : He.SaysD fa fn g.K) : ∃ t, mg "LETTERS" = some (.str "abcdefghijklmnopqrstuvwxyz" t) := He.str_ok kin gn (c.fact 49 (f := .str "LETTERS" "abcdefghijklmnopqrstuvwxyz") rfl)
theorem V_LONGEST (kin : g.K.In h) (gn : h.Ns mainGlobals mg) (c : He.SaysD fa fn g.K) : ∃ t, mg "LONGEST" = some (.int 6 t) := He.int_ok kin gn (c.fact 50 (f := .int "LONGEST" 6) rfl)
theorem V_MOST_GOALS (kin : g.K.In h) (gn : h.Ns mainGlobals mg) (c : He.SaysD fa fn g.K) : ∃ t, mg "MOST_GOALS" = some (.int 2 t) := He.int_ok kin gn (c.fact 51 (f := .int "MOST_GOALS" 2) rfl)
theorem V_MOST_NODES (kin : g.K.In h) (gn : h.Ns mainGlobals mg) (c : He.SaysD fa fn g.K) : ∃ t, mg "MOST_NODES" = some (.int 6 t) := He.int_ok kin gn (c.fact 52 (f := .int "MOST_NODES" 6) rfl)
theorem V_MOST_POSTS (kin : g.K.In h) (gn : h.Ns mainGlobals mg) (c : He.SaysD fa fn g.K) : ∃ t, mg "MOST_POSTS" = some (.int 2 t) := He.int_ok kin gn (c.fact 53 (f := .int "MOST_POSTS" 2) rfl)
theorem Cl_0 (c : He.SaysD fa fn g.K) (hcl : g.cls = clsOf g.K) : Cls g.K (g.cls 0) := by rw [hcl]; exact He.cls_ok (c.fact 54 (f := .cls "Net") rfl)
theorem GC_0 (kin : g.K.In h) (gn : h.Ns mainGlobals mg) (c : He.SaysD fa fn g.K) (hcl : g.cls = clsOf g.K) : mg "Net" = some (.ref (g.cls 0)) := by rw [hcl]; exact G_Net kin gn c
theorem Mk_0 (c : He.SaysD fa fn g.K) (hcl : g.cls = clsOf g.K) : Mk g.K (g.cls 0) (He.ma g.K (He.ga g.K "Net") "__init__") := by rw [hcl]; exact He.mkr_ok (c.fact 55 (f := .mkr "Net") rfl)
theorem Me_0_does_change (c : He.SaysD fa fn g.K) (hcl : g.cls = clsOf g.K) : Meth g.K (g.cls 0) "does_change" (He.ma g.K (He.ga g.K "Net") "does_change") := by rw [hcl]; exact He.meth_ok (c.fact 56 (f := .meth "Net" "does_change") rfl)
theorem Me_0_with_way (c : He.SaysD fa fn g.K) (hcl : g.cls = clsOf g.K) : Meth g.K (g.cls 0) "with_way" (He.ma g.K (He.ga g.K "Net") "with_way") := by rw [hcl]; exact He.meth_ok (c.fact 58 (f := .meth "Net" "with_way") rfl)
theorem Na_0_own_tables (c : He.SaysD fa fn g.K) (hcl : g.cls = clsOf g.K) : NoAttr g.K (g.cls 0) "own_tables" := by rw [hcl]; exact He.noat_ok (c.fact 62 (f := .noat "Net" "own_tables") rfl)
theorem Na_0_own_goals (c : He.SaysD fa fn g.K) (hcl : g.cls = clsOf g.K) : NoAttr g.K (g.cls 0) "own_goals" := by rw [hcl]; exact He.noat_ok (c.fact 63 (f := .noat "Net" "own_goals") rfl)
theorem Na_0_own_nodes (c : He.SaysD fa fn g.K) (hcl : g.cls = clsOf g.K) : NoAttr g.K (g.cls 0) "own_nodes" := by rw [hcl]; exact He.noat_ok (c.fact 64 (f := .noat "Net" "own_nodes") rfl)
theorem Na_0_own_sources (c : He.SaysD fa fn g.K) (hcl : g.cls = clsOf g.K) : NoAttr g.K (g.cls 0) "own_sources" := by rw [hcl]; exact He.noat_ok (c.fact 65 (f := .noat "Net" "own_sources") rfl)
theorem Na_0_own_posts (c : He.SaysD fa fn g.K) (hcl : g.cls = clsOf g.K) : NoAttr g.K (g.cls 0) "own_posts" := by rw [hcl]; exact He.noat_ok (c.fact 66 (f := .noat "Net" "own_posts") rfl)
theorem Na_0_own_changing (c : He.SaysD fa fn g.K) (hcl : g.cls = clsOf g.K) : NoAttr g.K (g.cls 0) "own_changing" := by rw [hcl]; exact He.noat_ok (c.fact 67 (f := .noat "Net" "own_changing") rfl)
theorem Z_len (kin : g.K.In h) (gn : h.Ns mainGlobals mg) (c : He.SaysD fa fn g.K) : mg "len" = none := He.free_ok kin gn (c.fact 68 (f := .free "len") rfl)
theorem Z_isinstance (kin : g.K.In h) (gn : h.Ns mainGlobals mg) (c : He.SaysD fa fn g.K) : mg "isinstance" = none := He.free_ok kin gn (c.fact 69 (f := .free "isinstance") rfl)
theorem Z_sorted (kin : g.K.In h) (gn : h.Ns mainGlobals mg) (c : He.SaysD fa fn g.K) : mg "sorted" = none := He.free_ok kin gn (c.fact 70 (f := .free "sorted") rfl)
theorem Z_tuple (kin : g.K.In h) (gn : h.Ns mainGlobals mg) (c : He.SaysD fa fn g.K) : mg "tuple" = none := He.free_ok kin gn (c.fact 71 (f := .free "tuple") rfl)
theorem Z_all (kin : g.K.In h) (gn : h.Ns mainGlobals mg) (c : He.SaysD fa fn g.K) : mg "all" = none := He.free_ok kin gn (c.fact 72 (f := .free "all") rfl)
theorem Z_any (kin : g.K.In h) (gn : h.Ns mainGlobals mg) (c : He.SaysD fa fn g.K) : mg "any" = none := He.free_ok kin gn (c.fact 73 (f := .free "any") rfl)
theorem Z_range (kin : g.K.In h) (gn : h.Ns mainGlobals mg) (c : He.SaysD fa fn g.K) : mg "range" = none := He.free_ok kin gn (c.fact 74 (f := .free "range") rfl)
theorem Z_list (kin : g.K.In h) (gn : h.Ns mainGlobals mg) (c : He.SaysD fa fn g.K) : mg "list" = none := He.free_ok kin gn (c.fact 75 (f := .free "list") rfl)
theorem Z_dict (kin : g.K.In h) (gn : h.Ns mainGlobals mg) (c : He.SaysD fa fn g.K) : mg "dict" = none := He.free_ok kin gn (c.fact 76 (f := .free "dict") rfl)
theorem Z_int (kin : g.K.In h) (gn : h.Ns mainGlobals mg) (c : He.SaysD fa fn g.K) : mg "int" = none := He.free_ok kin gn (c.fact 77 (f := .free "int") rfl)
theorem Z_repr (kin : g.K.In h) (gn : h.Ns mainGlobals mg) (c : He.SaysD fa fn g.K) : mg "repr" = none := He.free_ok kin gn (c.fact 78 (f := .free "repr") rfl)
theorem Z_min (kin : g.K.In h) (gn : h.Ns mainGlobals mg) (c : He.SaysD fa fn g.K) : mg "min" = none := He.free_ok kin gn (c.fact 79 (f := .free "min") rfl)
theorem Z_abs (kin : g.K.In h) (gn : h.Ns mainGlobals mg) (c : He.SaysD fa fn g.K) : mg "abs" = none := He.free_ok kin gn (c.fact 81 (f := .free "abs") rfl)
theorem Z_enumerate (kin : g.K.In h) (gn : h.Ns mainGlobals mg) (c : He.SaysD fa fn g.K) : mg "enumerate" = none := He.free_ok kin gn (c.fact 82 (f := .free "enumerate") rfl)
theorem Z_set (kin : g.K.In h) (gn : h.Ns mainGlobals mg) (c : He.SaysD fa fn g.K) : mg "set" = none := He.free_ok kin gn (c.fact 83 (f := .free "set") rfl)
theorem Z_zip (kin : g.K.In h) (gn : h.Ns mainGlobals mg) (c : He.SaysD fa fn g.K) : mg "zip" = none := He.free_ok kin gn (c.fact 84 (f := .free "zip") rfl)
theorem Z_str (kin : g.K.In h) (gn : h.Ns mainGlobals mg) (c : He.SaysD fa fn g.K) : mg "str" = none := He.free_ok kin gn (c.fact 85 (f := .free "str") rfl)
variable (kin : g.K.In h) (gn : h.Ns mainGlobals mg) (c : He.SaysD fa fn g.K) (hcl : g.cls = clsOf g.K) (sy : ∃ u, base.get? sysModules = some u) {T : Fm g.R.S}
variable (isc : exB g.K = true) (gt : GetsD gts g.K)
include kin gn c hcl sy isc gt
omit kin gn sy gt in
theorem isc_0 : IsC g.K (g.cls 0) := by rw [hcl]; exact isCB_ok (He.cls_ok (c.fact 54 (f := .cls "Net") rfl)) (by have := isc; unfold exB at this; exact this)
omit kin gn c sy isc in
theorem Pr_0_tables : PropOf g.K (g.cls 0) "tables" (pAd g.K "Net" "tables") (gAd g.K "Net" "tables") := by rw [hcl]; exact gt.prop 0 (q := ⟨"Net", "tables", "tables", "Net.tables", inClass (top 23) 2⟩) rfl
theorem ok__law_begin : Fu g P w mg base 1 "_law_begin" "_law_begin" (top 38) ["script"] (f__law_begin T) (He.ga g.K "_law_begin") := by
  refine fu_of (N := ["script", "great", "cell"]) sy (c.def_ 27 (d := ⟨("_law_begin", none), "_law_begin", "_law_begin", defArgs (top 38), defBody (top 38), defScope (top 38), [], []⟩) rfl) ⟨rfl, rfl, rfl, by decide +kernel, rfl, by decide +kernel, by decide +kernel⟩ (fun _ _ _ _ _ _ us hl => match us, hl with | [_], _ => rfl) fun cdv A outer s H o => ?_
  exact b_cons (s_setLc [("cell", 2)] o (i_any o (d_var (pv 0))) (blk_of (by kernel_rfl)) (fun _ _ _ _ _ => g_name o.blk.nd) (fun _ _ _ _ _ => c_one (t_ge (d_abs rfl (Z_abs kin gn c) (d_var (pv 2))) (d_pow (d_int) (d_int)))) (fun _ _ _ _ _ => d_sub (d_abs rfl (Z_abs kin gn c) (d_var (pv 2))) (d_pow (d_int) (d_int))) (sw_true rfl rfl rfl rfl)) (b_one (s_ret (d_disp o (p_cons (d_str) (d_var (pv 1)) (p_cons (d_str) (d_int) (p_cons (d_str) (d_lc [("cell", 2)] o (i_any o (d_var (pv 0))) (blk_of (by kernel_rfl)) (fun _ _ _ _ _ => g_name o.blk.nd) (fun _ _ _ _ _ => c_nil) (fun _ _ _ _ _ => d_abs rfl (Z_abs kin gn c) (d_var (pv 2)))) (p_cons (d_str) (d_int) (p_nil))))))))
variable (ok__law_take : Fu g P w mg base 3 "_law_take" "_law_take" (top 42) ["draw", "size"] (T) (He.ga g.K "_law_take"))
include ok__law_take
theorem ok__law_mixed : Fu g P w mg base 4 "_law_mixed" "_law_mixed" (top 41) ["draw", "some"] (f__law_mixed T) (He.ga g.K "_law_mixed") := by
  refine fu_of (N := ["draw", "some", "left", "found"]) sy (c.def_ 30 (d := ⟨("_law_mixed", none), "_law_mixed", "_law_mixed", defArgs (top 41), defBody (top 41), defScope (top 41), [], []⟩) rfl) ⟨rfl, rfl, rfl, by decide +kernel, rfl, by decide +kernel, by decide +kernel⟩ (fun _ _ _ _ _ _ us hl => match us, hl with | [_, _], _ => rfl) fun cdv A outer s H o => ?_
  exact b_cons (s_par2' rfl o.nd (h_cons (d_list o rfl (Z_list kin gn c) (d_var (pv 1))) (h_cons (d_lst (a_nil)) (h_nil)))) (b_cons (s_while .never (t_ne o (d_var (pv 2)) (d_lst (a_nil))) (b_one (s_expr (d_mL m_app (pe_bm PySem.F.plainAttrs_list PySem.F.slot_list_append PySem.F.type_list_append mt_append (pv 3) (a_cons (d_mL m_popAt (pe_bm PySem.F.plainAttrs_list PySem.F.slot_list_pop PySem.F.type_list_pop mt_popAt (pv 2) (a_cons (d_callF ok__law_take o (G__law_take kin gn c) (a_cons (d_var (pv 0)) (a_cons (d_len' o rfl (Z_len kin gn c) (d_var (pv 2))) (a_nil)))) (a_nil)))) (a_nil))))))) (b_one (s_ret (d_var (pv 3)))))
theorem ok__law_pick : Fu g P w mg base 4 "_law_pick" "_law_pick" (top 40) ["draw", "some"] (f__law_pick T) (He.ga g.K "_law_pick") := by
  refine fu_of (N := ["draw", "some"]) sy (c.def_ 29 (d := ⟨("_law_pick", none), "_law_pick", "_law_pick", defArgs (top 40), defBody (top 40), defScope (top 40), [], []⟩) rfl) ⟨rfl, rfl, rfl, by decide +kernel, rfl, by decide +kernel, by decide +kernel⟩ (fun _ _ _ _ _ _ us hl => match us, hl with | [_, _], _ => rfl) fun cdv A outer s H o => ?_
  exact b_one (s_ret (d_idx o (d_var (pv 1)) (d_callF ok__law_take o (G__law_take kin gn c) (a_cons (d_var (pv 0)) (a_cons (d_len' o rfl (Z_len kin gn c) (d_var (pv 1))) (a_nil))))))
theorem ok__law_near : Fu g P w mg base 5 "_law_near" "_law_near" (top 47) ["draw", "table", "end"] (f__law_near T) (He.ga g.K "_law_near") := by
  have ok__law_pick := ok__law_pick (P := P) (w := w) (base := base) kin gn c hcl sy isc gt ok__law_take
  refine fu_of (N := ["draw", "table", "end", "found", "some", "turn", "dot", "spot"]) sy (c.def_ 36 (d := ⟨("_law_near", none), "_law_near", "_law_near", defArgs (top 47), defBody (top 47), defScope (top 47), [], []⟩) rfl) ⟨rfl, rfl, rfl, by decide +kernel, rfl, by decide +kernel, by decide +kernel⟩ (fun _ _ _ _ _ _ us hl => match us, hl with | [_, _, _], _ => rfl) fun cdv A outer s H o => ?_
  exact b_cons (s_par2' rfl o.nd (h_cons (d_dict o rfl (Z_dict kin gn c) (d_var (pv 1))) (h_cons (d_sorted2 o rfl (Z_sorted kin gn c) (d_var (pv 1))) (h_nil)))) (b_cons (s_for .never rfl (i_range1 rfl (Z_range kin gn c) (d_add o (d_int) (d_callF ok__law_take o (G__law_take kin gn c) (a_cons (d_var (pv 0)) (a_cons (d_int) (a_nil)))))) (g_name o.nd) (b_cons (s_set o.nd (d_callF ok__law_pick o (G__law_pick kin gn c) (a_cons (d_var (pv 0)) (a_cons (d_var (pv 4)) (a_nil))))) (b_one (s_put o (pv 3) (d_var (pv 6)) (d_callF ok__law_pick o (G__law_pick kin gn c) (a_cons (d_var (pv 0)) (a_cons (d_add o (d_lc [("spot", 7)] o (i_any o (d_var (pv 4))) (blk_of (by kernel_rfl)) (fun _ _ _ _ _ => g_name o.blk.nd) (fun _ _ _ _ _ => c_one (t_ne o.blk (d_var (pv 7)) (d_var (pv 6)))) (fun _ _ _ _ _ => d_var (pv 7))) (d_lst (a_cons (d_var (pv 2)) (a_nil)))) (a_nil)))) (pg_sub (pv 3) (d_var (pv 6)) (PSet.or set_list (set_dict o.hu))))))) (b_one (s_ret (d_var (pv 3)))))
theorem ok__law_path : Fu g P w mg base 5 "_law_path" "_law_path" (top 45) ["draw", "some", "end"] (f__law_path T) (He.ga g.K "_law_path") := by
  have ok__law_mixed := ok__law_mixed (P := P) (w := w) (base := base) kin gn c hcl sy isc gt ok__law_take
  refine fu_of (N := ["draw", "some", "end", "row", "k", "dot"]) sy (c.def_ 34 (d := ⟨("_law_path", none), "_law_path", "_law_path", defArgs (top 45), defBody (top 45), defScope (top 45), [], []⟩) rfl) ⟨rfl, rfl, rfl, by decide +kernel, rfl, by decide +kernel, by decide +kernel⟩ (fun _ _ _ _ _ _ us hl => match us, hl with | [_, _, _], _ => rfl) fun cdv A outer s H o => ?_
  exact b_cons (s_set o.nd (d_add o (d_callF ok__law_mixed o (G__law_mixed kin gn c) (a_cons (d_var (pv 0)) (a_cons (d_var (pv 1)) (a_nil)))) (d_lst (a_cons (d_var (pv 2)) (a_nil))))) (b_one (s_ret (d_dict o rfl (Z_dict kin gn c) (d_lc [("k", 4), ("dot", 5)] o (i_enum o rfl (Z_enumerate kin gn c) (d_slice o (d_var (pv 3)) (o_none) (o_some (d_neg (d_int))))) (blk_of (by kernel_rfl)) (fun _ _ _ _ _ => g_tup o.blk (ts_cons (g_name o.blk.nd) (ts_cons (g_name o.blk.nd) (ts_nil)))) (fun _ _ _ _ _ => c_nil) (fun _ _ _ _ _ => d_tup (a_cons (d_var (pv 5)) (a_cons (d_idx o.blk (d_var (pv 3)) (d_add o.blk (d_var (pv 4)) (d_int))) (a_nil))))))))
theorem ok__law_tree : Fu g P w mg base 5 "_law_tree" "_law_tree" (top 44) ["draw", "some", "end"] (f__law_tree T) (He.ga g.K "_law_tree") := by
  have ok__law_mixed := ok__law_mixed (P := P) (w := w) (base := base) kin gn c hcl sy isc gt ok__law_take
  have ok__law_pick := ok__law_pick (P := P) (w := w) (base := base) kin gn c hcl sy isc gt ok__law_take
  refine fu_of (N := ["draw", "some", "end", "found", "ahead", "dot"]) sy (c.def_ 33 (d := ⟨("_law_tree", none), "_law_tree", "_law_tree", defArgs (top 44), defBody (top 44), defScope (top 44), [], []⟩) rfl) ⟨rfl, rfl, rfl, by decide +kernel, rfl, by decide +kernel, by decide +kernel⟩ (fun _ _ _ _ _ _ us hl => match us, hl with | [_, _, _], _ => rfl) fun cdv A outer s H o => ?_
  exact b_cons (s_par2' rfl o.nd (h_cons (d_dct0) (h_cons (d_lst (a_cons (d_var (pv 2)) (a_nil))) (h_nil)))) (b_cons (s_for .never rfl (i_any o (d_callF ok__law_mixed o (G__law_mixed kin gn c) (a_cons (d_var (pv 0)) (a_cons (d_var (pv 1)) (a_nil))))) (g_name o.nd) (b_cons (s_put o (pv 3) (d_var (pv 5)) (d_callF ok__law_pick o (G__law_pick kin gn c) (a_cons (d_var (pv 0)) (a_cons (d_var (pv 4)) (a_nil)))) (pg_sub (pv 3) (d_var (pv 5)) (PSet.or set_list (set_dict o.hu)))) (b_one (s_expr (d_mL m_app (pe_bm PySem.F.plainAttrs_list PySem.F.slot_list_append PySem.F.type_list_append mt_append (pv 4) (a_cons (d_var (pv 5)) (a_nil)))))))) (b_one (s_ret (d_var (pv 3)))))
theorem ok__law_wild : Fu g P w mg base 5 "_law_wild" "_law_wild" (top 46) ["draw", "some", "end"] (f__law_wild T) (He.ga g.K "_law_wild") := by
  have ok__law_pick := ok__law_pick (P := P) (w := w) (base := base) kin gn c hcl sy isc gt ok__law_take
  refine fu_of (N := ["draw", "some", "end", "found", "dot", "spots", "spot"]) sy (c.def_ 35 (d := ⟨("_law_wild", none), "_law_wild", "_law_wild", defArgs (top 46), defBody (top 46), defScope (top 46), [], []⟩) rfl) ⟨rfl, rfl, rfl, by decide +kernel, rfl, by decide +kernel, by decide +kernel⟩ (fun _ _ _ _ _ _ us hl => match us, hl with | [_, _, _], _ => rfl) fun cdv A outer s H o => ?_
  exact b_cons (s_set o.nd (d_dct0)) (b_cons (s_for .never rfl (i_any o (d_var (pv 1))) (g_name o.nd) (b_cons (s_setLc [("spot", 6)] o (i_any o (d_var (pv 1))) (blk_of (by kernel_rfl)) (fun _ _ _ _ _ => g_name o.blk.nd) (fun _ _ _ _ _ => c_one (t_ne o.blk (d_var (pv 6)) (d_var (pv 4)))) (fun _ _ _ _ _ => d_var (pv 6)) (sw_true rfl rfl rfl rfl)) (b_one (s_put o (pv 3) (d_var (pv 4)) (d_callF ok__law_pick o (G__law_pick kin gn c) (a_cons (d_var (pv 0)) (a_cons (d_add o (d_add o (d_var (pv 5)) (d_var (pv 5))) (d_lst (a_cons (d_var (pv 2)) (a_cons (d_var (pv 2)) (a_cons (d_non) (a_nil)))))) (a_nil)))) (pg_sub (pv 3) (d_var (pv 4)) (PSet.or set_list (set_dict o.hu))))))) (b_one (s_ret (d_var (pv 3)))))
theorem ok__law_pair : Fu g P w mg base 6 "_law_pair" "_law_pair" (top 48) ["draw", "some", "end"] (f__law_pair T) (He.ga g.K "_law_pair") := by
  have ok__law_near := ok__law_near (P := P) (w := w) (base := base) kin gn c hcl sy isc gt ok__law_take
  have ok__law_path := ok__law_path (P := P) (w := w) (base := base) kin gn c hcl sy isc gt ok__law_take
  have ok__law_tree := ok__law_tree (P := P) (w := w) (base := base) kin gn c hcl sy isc gt ok__law_take
  have ok__law_wild := ok__law_wild (P := P) (w := w) (base := base) kin gn c hcl sy isc gt ok__law_take
  refine fu_of (N := ["draw", "some", "end", "sort", "old"]) sy (c.def_ 37 (d := ⟨("_law_pair", none), "_law_pair", "_law_pair", defArgs (top 48), defBody (top 48), defScope (top 48), [], []⟩) rfl) ⟨rfl, rfl, rfl, by decide +kernel, rfl, by decide +kernel, by decide +kernel⟩ (fun _ _ _ _ _ _ us hl => match us, hl with | [_, _, _], _ => rfl) fun cdv A outer s H o => ?_
  exact b_cons (s_set o.nd (d_callF ok__law_take o (G__law_take kin gn c) (a_cons (d_var (pv 0)) (a_cons (d_int) (a_nil))))) (b_cons (s_if (t_lt (d_var (pv 3)) (d_int)) (b_one (s_ret (d_tup (a_cons (d_callF ok__law_tree o (G__law_tree kin gn c) (a_cons (d_var (pv 0)) (a_cons (d_var (pv 1)) (a_cons (d_var (pv 2)) (a_nil))))) (a_cons (d_callF ok__law_tree o (G__law_tree kin gn c) (a_cons (d_var (pv 0)) (a_cons (d_var (pv 1)) (a_cons (d_var (pv 2)) (a_nil))))) (a_nil)))))) (b_nil)) (b_cons (s_if (t_eq o (d_var (pv 3)) (d_int)) (b_one (s_ret (d_tup (a_cons (d_callF ok__law_path o (G__law_path kin gn c) (a_cons (d_var (pv 0)) (a_cons (d_var (pv 1)) (a_cons (d_var (pv 2)) (a_nil))))) (a_cons (d_callF ok__law_path o (G__law_path kin gn c) (a_cons (d_var (pv 0)) (a_cons (d_var (pv 1)) (a_cons (d_var (pv 2)) (a_nil))))) (a_nil)))))) (b_nil)) (b_cons (s_set o.nd (d_if (t_eq o (d_var (pv 3)) (d_int)) (d_callF ok__law_tree o (G__law_tree kin gn c) (a_cons (d_var (pv 0)) (a_cons (d_var (pv 1)) (a_cons (d_var (pv 2)) (a_nil))))) (d_callF ok__law_wild o (G__law_wild kin gn c) (a_cons (d_var (pv 0)) (a_cons (d_var (pv 1)) (a_cons (d_var (pv 2)) (a_nil))))))) (b_one (s_ret (d_tup (a_cons (d_var (pv 4)) (a_cons (d_if (t_eq o (d_var (pv 3)) (d_int)) (d_callF ok__law_near o (G__law_near kin gn c) (a_cons (d_var (pv 0)) (a_cons (d_var (pv 4)) (a_cons (d_var (pv 2)) (a_nil))))) (d_callF ok__law_wild o (G__law_wild kin gn c) (a_cons (d_var (pv 0)) (a_cons (d_var (pv 1)) (a_cons (d_var (pv 2)) (a_nil)))))) (a_nil)))))))))
theorem ok__law_words : Fu g P w mg base 5 "_law_words" "_law_words" (top 43) ["draw", "count"] (f__law_words T) (He.ga g.K "_law_words") := by
  have ok__law_pick := ok__law_pick (P := P) (w := w) (base := base) kin gn c hcl sy isc gt ok__law_take
  refine fu_of (N := ["draw", "count", "letters", "found", "some", "k", "word", "span", "near", "letter", "j", "uno"]) sy (c.def_ 32 (d := ⟨("_law_words", none), "_law_words", "_law_words", defArgs (top 43), defBody (top 43), defScope (top 43), [], []⟩) rfl) ⟨rfl, rfl, rfl, by decide +kernel, rfl, by decide +kernel, by decide +kernel⟩ (fun _ _ _ _ _ _ us hl => match us, hl with | [_, _], _ => rfl) fun cdv A outer s H o => ?_
  exact b_cons (s_parT rfl (h_cons (d_str) (h_cons (d_lst (a_nil)) (h_nil))) (gs_cons o.nd (gs_cons o.nd (gs_nil)))) (b_cons (s_set o.nd (d_lst (a_cons (d_str) (a_cons (d_str) (a_cons (d_str) (a_cons (d_str) (a_cons (d_str) (a_cons (d_str) (a_cons (d_str) (a_cons (d_str) (a_cons (d_str) (a_cons (d_str) (a_nil))))))))))))) (b_cons (s_for .never rfl (i_range1 rfl (Z_range kin gn c) (d_var (pv 1))) (g_name o.nd) (b_cons (s_set o.nd (d_callF ok__law_pick o (G__law_pick kin gn c) (a_cons (d_var (pv 0)) (a_cons (d_var (pv 4)) (a_nil))))) (b_cons (s_if (t_gtD (d_callF ok__law_take o (G__law_take kin gn c) (a_cons (d_var (pv 0)) (a_cons (d_int) (a_nil)))) (d_int)) (b_cons (s_set o.nd (d_add o (d_int) (d_callF ok__law_take o (G__law_take kin gn c) (a_cons (d_var (pv 0)) (a_cons (d_callF ok__law_pick o (G__law_pick kin gn c) (a_cons (d_var (pv 0)) (a_cons (d_lst (a_cons (d_int) (a_cons (d_int) (a_cons (d_int) (a_nil))))) (a_nil)))) (a_nil)))))) (b_one (s_set o.nd (d_join o (d_str) (d_lc [("j", 10)] o (i_range1 rfl (Z_range kin gn c) (d_var (pv 7))) (blk_of (by kernel_rfl)) (fun _ _ _ _ _ => g_name o.blk.nd) (fun _ _ _ _ _ => c_nil) (fun _ _ _ _ _ => d_callF ok__law_pick o.blk (G__law_pick kin gn c) (a_cons (d_var (pv 0)) (a_cons (d_var (pv 2)) (a_nil))))))))) (b_nil)) (b_cons (s_set o.nd (d_add o (d_lst (a_cons (d_var (pv 6)) (a_nil))) (d_lc [("letter", 9)] o (i_any o (d_var (pv 2))) (blk_of (by kernel_rfl)) (fun _ _ _ _ _ => g_name o.blk.nd) (fun _ _ _ _ _ => c_nil) (fun _ _ _ _ _ => d_add o.blk (d_slice o.blk (d_var (pv 6)) (o_none) (o_some (d_int))) (d_var (pv 9)))))) (b_one (s_expr (d_mL m_app (pe_bm PySem.F.plainAttrs_list PySem.F.slot_list_append PySem.F.type_list_append mt_append (pv 3) (a_cons (d_idx o (d_lc [("uno", 11)] o (i_any o (d_var (pv 8))) (blk_of (by kernel_rfl)) (fun _ _ _ _ _ => g_name o.blk.nd) (fun _ _ _ _ _ => c_one (t_nin o.blk (d_var (pv 11)) (d_var (pv 3)))) (fun _ _ _ _ _ => d_var (pv 11))) (d_int)) (a_nil)))))))))) (b_one (s_ret (d_var (pv 3))))))
theorem ok__law_model : Fu g P w mg base 7 "_law_model" "_law_model" (top 49) ["draw", "ends", "most"] (f__law_model T) (He.ga g.K "_law_model") := by
  have ok__law_mixed := ok__law_mixed (P := P) (w := w) (base := base) kin gn c hcl sy isc gt ok__law_take
  have ok__law_pair := ok__law_pair (P := P) (w := w) (base := base) kin gn c hcl sy isc gt ok__law_take
  have ok__law_pick := ok__law_pick (P := P) (w := w) (base := base) kin gn c hcl sy isc gt ok__law_take
  have ok__law_words := ok__law_words (P := P) (w := w) (base := base) kin gn c hcl sy isc gt ok__law_take
  refine fu_of (N := ["draw", "ends", "most", "many", "size", "names", "dots", "rows", "end", "begins", "stops"]) sy (c.def_ 38 (d := ⟨("_law_model", none), "_law_model", "_law_model", defArgs (top 49), defBody (top 49), defScope (top 49), [], []⟩) rfl) ⟨rfl, rfl, rfl, by decide +kernel, rfl, by decide +kernel, by decide +kernel⟩ (fun _ _ _ _ _ _ us hl => match us, hl with | [_, _, _], _ => rfl) fun cdv A outer s H o => ?_
  exact b_cons (s_par2' rfl o.nd (h_cons (d_add o (d_int) (d_callF ok__law_take o (G__law_take kin gn c) (a_cons (d_var (pv 0)) (a_cons (d_var (pv 1)) (a_nil))))) (h_cons (d_add o (d_int) (d_callF ok__law_take o (G__law_take kin gn c) (a_cons (d_var (pv 0)) (a_cons (d_var (pv 2)) (a_nil))))) (h_nil)))) (b_cons (s_set o.nd (d_callF ok__law_words o (G__law_words kin gn c) (a_cons (d_var (pv 0)) (a_cons (d_add o (d_var (pv 3)) (d_var (pv 4))) (a_nil))))) (b_cons (s_par2' rfl o.nd (h_cons (d_sorted2 o rfl (Z_sorted kin gn c) (d_slice o (d_var (pv 5)) (o_some (d_var (pv 3))) (o_none))) (h_cons (d_dct0) (h_nil)))) (b_cons (s_for .never rfl (i_any o (d_sorted2 o rfl (Z_sorted kin gn c) (d_slice o (d_var (pv 5)) (o_none) (o_some (d_var (pv 3)))))) (g_name o.nd) (b_one (s_put o (pv 7) (d_var (pv 8)) (d_callF ok__law_pair o (G__law_pair kin gn c) (a_cons (d_var (pv 0)) (a_cons (d_var (pv 6)) (a_cons (d_var (pv 8)) (a_nil))))) (pg_sub (pv 7) (d_var (pv 8)) (PSet.or set_list (set_dict o.hu)))))) (b_cons (s_set o.nd (d_sorted2 o rfl (Z_sorted kin gn c) (d_slice o (d_callF ok__law_mixed o (G__law_mixed kin gn c) (a_cons (d_var (pv 0)) (a_cons (d_var (pv 6)) (a_nil)))) (o_none) (o_some (d_callF ok__law_take o (G__law_take kin gn c) (a_cons (d_var (pv 0)) (a_cons (d_add o (d_min2 o rfl (Z_min kin gn c) (d_int) (d_var (pv 4))) (d_int)) (a_nil)))))))) (b_cons (s_set o.nd (d_slice o (d_callF ok__law_mixed o (G__law_mixed kin gn c) (a_cons (d_var (pv 0)) (a_cons (d_var (pv 6)) (a_nil)))) (o_none) (o_some (d_callF ok__law_pick o (G__law_pick kin gn c) (a_cons (d_var (pv 0)) (a_cons (d_lst (a_cons (d_int) (a_cons (d_int) (a_cons (d_int) (a_cons (d_int) (a_cons (d_int) (a_nil))))))) (a_nil))))))) (b_one (s_ret (d_disp o (p_cons (d_str) (d_var (pv 7)) (p_cons (d_str) (d_var (pv 6)) (p_cons (d_str) (d_var (pv 9)) (p_cons (d_str) (d_var (pv 10)) (p_nil)))))))))))))
theorem ok_Net_does_change : Fu g P w mg base 1 "does_change" "Net.does_change" (inClass (top 23) 1) ["self", "node"] (f_Net_does_change T) (He.ma g.K (He.ga g.K "Net") "does_change") := by
  refine fu_of (N := ["self", "node", "pair"]) sy (c.def_ 10 (d := ⟨("Net", some "does_change"), "does_change", "Net.does_change", defArgs (inClass (top 23) 1), defBody (inClass (top 23) 1), defScope (inClass (top 23) 1), [], []⟩) rfl) ⟨rfl, rfl, rfl, by decide +kernel, rfl, by decide +kernel, by decide +kernel⟩ (fun _ _ _ _ _ _ us hl => match us, hl with | [_, _], _ => rfl) fun cdv A outer s H o => ?_
  exact b_one (s_ret (d_any o rfl (Z_any kin gn c) (d_lc [("pair", 2)] o (i_vals (d_fld 0 (Cl_0 c hcl) (Na_0_own_tables c hcl) (d_var (pv 0)))) (blk_of (by kernel_rfl)) (fun _ _ _ _ _ => g_name o.blk.nd) (fun _ _ _ _ _ => c_nil) (fun _ _ _ _ _ => d_ne o.blk (d_idx o.blk (d_idx o.blk (d_var (pv 2)) (d_int)) (d_var (pv 1))) (d_idx o.blk (d_idx o.blk (d_var (pv 2)) (d_int)) (d_var (pv 1)))))))
theorem ok_is_list : Fu g P w mg base 1 "is_list" "is_list" (top 14) ["thing"] (f_is_list T) (He.ga g.K "is_list") := by
  refine fu_of (N := ["thing"]) sy (c.def_ 0 (d := ⟨("is_list", none), "is_list", "is_list", defArgs (top 14), defBody (top 14), defScope (top 14), [], []⟩) rfl) ⟨rfl, rfl, rfl, by decide +kernel, rfl, by decide +kernel, by decide +kernel⟩ (fun _ _ _ _ _ _ us hl => match us, hl with | [_], _ => rfl) fun cdv A outer s H o => ?_
  exact b_one (s_ret (d_isi2 o rfl (Z_isinstance kin gn c) rfl (Z_list kin gn c) rfl (Z_tuple kin gn c) (d_var (pv 0))))
theorem ok_are_nodes : Fu g P w mg base 2 "are_nodes" "are_nodes" (top 21) ["nodes", "thing"] (f_are_nodes T) (He.ga g.K "are_nodes") := by
  have ok_is_list := ok_is_list (P := P) (w := w) (base := base) kin gn c hcl sy isc gt ok__law_take
  refine fu_of (N := ["nodes", "thing", "node"]) sy (c.def_ 7 (d := ⟨("are_nodes", none), "are_nodes", "are_nodes", defArgs (top 21), defBody (top 21), defScope (top 21), [], []⟩) rfl) ⟨rfl, rfl, rfl, by decide +kernel, rfl, by decide +kernel, by decide +kernel⟩ (fun _ _ _ _ _ _ us hl => match us, hl with | [_, _], _ => rfl) fun cdv A outer s H o => ?_
  exact b_cons (s_if (DW.t (w_or (t_not (t_val (d_callF ok_is_list o (G_is_list kin gn c) (a_cons (d_var (pv 1)) (a_nil))))) (w_one_or (t_not (t_val (d_all o rfl (Z_all kin gn c) (d_lc [("node", 2)] o (i_any o (d_var (pv 1))) (blk_of (by kernel_rfl)) (fun _ _ _ _ _ => g_name o.blk.nd) (fun _ _ _ _ _ => c_nil) (fun _ _ _ _ _ => d_and (d_isi o.blk rfl (Z_isinstance kin gn c) rfl (Z_str kin gn c) (d_var (pv 2))) (d_one (d_in o.blk (d_var (pv 2)) (d_var (pv 0)))))))))))) (b_one (s_ret (d_bl))) (b_nil)) (b_one (s_ret (d_eq o (d_lenSet o rfl (Z_len kin gn c) rfl (Z_set kin gn c) (d_var (pv 1))) (d_len' o rfl (Z_len kin gn c) (d_var (pv 1))))))
theorem ok_is_name : Fu g P w mg base 1 "is_name" "is_name" (top 15) ["thing"] (f_is_name T) (He.ga g.K "is_name") := by
  refine fu_of (N := ["thing", "sign"]) sy (c.def_ 1 (d := ⟨("is_name", none), "is_name", "is_name", defArgs (top 15), defBody (top 15), defScope (top 15), [], []⟩) rfl) ⟨rfl, rfl, rfl, by decide +kernel, rfl, by decide +kernel, by decide +kernel⟩ (fun _ _ _ _ _ _ us hl => match us, hl with | [_], _ => rfl) fun cdv A outer s H o => ?_
  exact b_one (s_ret (d_and (d_isi o rfl (Z_isinstance kin gn c) rfl (Z_str kin gn c) (d_var (pv 0))) (d_and (d_lele (d_int) (d_len' o rfl (Z_len kin gn c) (d_var (pv 0))) (d_gint rfl (V_LONGEST kin gn c).choose_spec)) (d_one (d_all o rfl (Z_all kin gn c) (d_lc [("sign", 1)] o (i_any o (d_var (pv 0))) (blk_of (by kernel_rfl)) (fun _ _ _ _ _ => g_name o.blk.nd) (fun _ _ _ _ _ => c_nil) (fun _ _ _ _ _ => d_in o.blk (d_var (pv 1)) (d_gstr rfl (V_LETTERS kin gn c).choose_spec))))))))
theorem ok_are_names : Fu g P w mg base 2 "are_names" "are_names" (top 16) ["thing", "most"] (f_are_names T) (He.ga g.K "are_names") := by
  have ok_is_name := ok_is_name (P := P) (w := w) (base := base) kin gn c hcl sy isc gt ok__law_take
  refine fu_of (N := ["thing", "most", "key"]) sy (c.def_ 2 (d := ⟨("are_names", none), "are_names", "are_names", defArgs (top 16), defBody (top 16), defScope (top 16), [], []⟩) rfl) ⟨rfl, rfl, rfl, by decide +kernel, rfl, by decide +kernel, by decide +kernel⟩ (fun _ _ _ _ _ _ us hl => match us, hl with | [_, _], _ => rfl) fun cdv A outer s H o => ?_
  exact b_one (s_ret (d_and (d_isi o rfl (Z_isinstance kin gn c) rfl (Z_dict kin gn c) (d_var (pv 0))) (d_and (d_lele (d_int) (d_len' o rfl (Z_len kin gn c) (d_var (pv 0))) (d_var (pv 1))) (d_one (d_all o rfl (Z_all kin gn c) (d_lc [("key", 2)] o (i_any o (d_var (pv 0))) (blk_of (by kernel_rfl)) (fun _ _ _ _ _ => g_name o.blk.nd) (fun _ _ _ _ _ => c_nil) (fun _ _ _ _ _ => d_callF ok_is_name o.blk (G_is_name kin gn c) (a_cons (d_var (pv 2)) (a_nil)))))))))
theorem ok_is_place : Fu g P w mg base 1 "is_place" "is_place" (top 17) ["nodes", "goal", "node", "thing"] (f_is_place T) (He.ga g.K "is_place") := by
  refine fu_of (N := ["nodes", "goal", "node", "thing"]) sy (c.def_ 3 (d := ⟨("is_place", none), "is_place", "is_place", defArgs (top 17), defBody (top 17), defScope (top 17), [], []⟩) rfl) ⟨rfl, rfl, rfl, by decide +kernel, rfl, by decide +kernel, by decide +kernel⟩ (fun _ _ _ _ _ _ us hl => match us, hl with | [_, _, _, _], _ => rfl) fun cdv A outer s H o => ?_
  exact b_cons (s_if (t_isN (d_var (pv 3))) (b_one (s_ret (d_bl))) (b_nil)) (b_one (s_ret (d_and (d_isi o rfl (Z_isinstance kin gn c) rfl (Z_str kin gn c) (d_var (pv 3))) (d_one (d_or (d_eq o (d_var (pv 3)) (d_var (pv 1))) (d_one (d_and (d_in o (d_var (pv 3)) (d_var (pv 0))) (d_one (d_ne o (d_var (pv 3)) (d_var (pv 2)))))))))))
theorem ok_is_table : Fu g P w mg base 2 "is_table" "is_table" (top 18) ["nodes", "goal", "thing"] (f_is_table T) (He.ga g.K "is_table") := by
  have ok_is_place := ok_is_place (P := P) (w := w) (base := base) kin gn c hcl sy isc gt ok__law_take
  refine fu_of (N := ["nodes", "goal", "thing", "node"]) sy (c.def_ 4 (d := ⟨("is_table", none), "is_table", "is_table", defArgs (top 18), defBody (top 18), defScope (top 18), [], []⟩) rfl) ⟨rfl, rfl, rfl, by decide +kernel, rfl, by decide +kernel, by decide +kernel⟩ (fun _ _ _ _ _ _ us hl => match us, hl with | [_, _, _], _ => rfl) fun cdv A outer s H o => ?_
  exact b_cons (s_if (DW.t (w_or (t_not (t_val (d_isi o rfl (Z_isinstance kin gn c) rfl (Z_dict kin gn c) (d_var (pv 2))))) (w_or (t_ne o (d_len' o rfl (Z_len kin gn c) (d_var (pv 2))) (d_len' o rfl (Z_len kin gn c) (d_var (pv 0)))) (w_one_or (t_not (t_val (d_all o rfl (Z_all kin gn c) (d_lc [("node", 3)] o (i_any o (d_var (pv 0))) (blk_of (by kernel_rfl)) (fun _ _ _ _ _ => g_name o.blk.nd) (fun _ _ _ _ _ => c_nil) (fun _ _ _ _ _ => d_in o.blk (d_var (pv 3)) (d_var (pv 2))))))))))) (b_one (s_ret (d_bl))) (b_nil)) (b_one (s_ret (d_all o rfl (Z_all kin gn c) (d_lc [("node", 3)] o (i_any o (d_var (pv 0))) (blk_of (by kernel_rfl)) (fun _ _ _ _ _ => g_name o.blk.nd) (fun _ _ _ _ _ => c_nil) (fun _ _ _ _ _ => d_callF ok_is_place o.blk (G_is_place kin gn c) (a_cons (d_var (pv 0)) (a_cons (d_var (pv 1)) (a_cons (d_var (pv 3)) (a_cons (d_idx o.blk (d_var (pv 2)) (d_var (pv 3))) (a_nil))))))))))
theorem ok_nodes_of : Fu g P w mg base 3 "nodes_of" "nodes_of" (top 19) ["tables"] (f_nodes_of T) (He.ga g.K "nodes_of") := by
  have ok_are_names := ok_are_names (P := P) (w := w) (base := base) kin gn c hcl sy isc gt ok__law_take
  refine fu_of (N := ["tables", "pair"]) sy (c.def_ 5 (d := ⟨("nodes_of", none), "nodes_of", "nodes_of", defArgs (top 19), defBody (top 19), defScope (top 19), [], []⟩) rfl) ⟨rfl, rfl, rfl, by decide +kernel, rfl, by decide +kernel, by decide +kernel⟩ (fun _ _ _ _ _ _ us hl => match us, hl with | [_], _ => rfl) fun cdv A outer s H o => ?_
  exact b_cons (s_set o.nd (d_idx o (d_var (pv 0)) (d_minF o rfl (Z_min kin gn c) (d_var (pv 0))))) (b_cons (s_if (DW.t (w_or (t_not (t_val (d_isi o rfl (Z_isinstance kin gn c) rfl (Z_tuple kin gn c) (d_var (pv 1))))) (w_or (t_ne o (d_len' o rfl (Z_len kin gn c) (d_var (pv 1))) (d_int)) (w_one_or (t_not (t_val (d_callF ok_are_names o (G_are_names kin gn c) (a_cons (d_idx o (d_var (pv 1)) (d_int)) (a_cons (d_gint rfl (V_MOST_NODES kin gn c).choose_spec) (a_nil)))))))))) (b_one (s_ret (d_non))) (b_nil)) (b_one (s_ret (d_sorted2 o rfl (Z_sorted kin gn c) (d_idx o (d_var (pv 1)) (d_int))))))
theorem ok_are_tables : Fu g P w mg base 4 "are_tables" "are_tables" (top 20) ["thing"] (f_are_tables T) (He.ga g.K "are_tables") := by
  have ok_are_names := ok_are_names (P := P) (w := w) (base := base) kin gn c hcl sy isc gt ok__law_take
  have ok_is_table := ok_is_table (P := P) (w := w) (base := base) kin gn c hcl sy isc gt ok__law_take
  have ok_nodes_of := ok_nodes_of (P := P) (w := w) (base := base) kin gn c hcl sy isc gt ok__law_take
  refine fu_of (N := ["thing", "nodes", "goal", "pair", "node"]) sy (c.def_ 6 (d := ⟨("are_tables", none), "are_tables", "are_tables", defArgs (top 20), defBody (top 20), defScope (top 20), [], []⟩) rfl) ⟨rfl, rfl, rfl, by decide +kernel, rfl, by decide +kernel, by decide +kernel⟩ (fun _ _ _ _ _ _ us hl => match us, hl with | [_], _ => rfl) fun cdv A outer s H o => ?_
  exact b_cons (s_if (t_not (t_val (d_callF ok_are_names o (G_are_names kin gn c) (a_cons (d_var (pv 0)) (a_cons (d_gint rfl (V_MOST_GOALS kin gn c).choose_spec) (a_nil)))))) (b_one (s_ret (d_bl))) (b_nil)) (b_cons (s_set o.nd (d_callF ok_nodes_of o (G_nodes_of kin gn c) (a_cons (d_var (pv 0)) (a_nil)))) (b_cons (s_if (DW.t (w_or (t_isN (d_var (pv 1))) (w_one_or (t_val (d_any o rfl (Z_any kin gn c) (d_lc [("node", 4)] o (i_any o (d_var (pv 1))) (blk_of (by kernel_rfl)) (fun _ _ _ _ _ => g_name o.blk.nd) (fun _ _ _ _ _ => c_nil) (fun _ _ _ _ _ => d_in o.blk (d_var (pv 4)) (d_var (pv 0))))))))) (b_one (s_ret (d_bl))) (b_nil)) (b_cons (s_for .never rfl (i_any o (d_var (pv 0))) (g_name o.nd) (b_cons (s_set o.nd (d_idx o (d_var (pv 0)) (d_var (pv 2)))) (b_cons (s_if (DW.t (w_or (t_not (t_val (d_isi o rfl (Z_isinstance kin gn c) rfl (Z_tuple kin gn c) (d_var (pv 3))))) (w_one_or (t_ne o (d_len' o rfl (Z_len kin gn c) (d_var (pv 3))) (d_int))))) (b_one (s_ret (d_bl))) (b_nil)) (b_one (s_if (DW.t (w_or (t_not (t_val (d_callF ok_is_table o (G_is_table kin gn c) (a_cons (d_var (pv 1)) (a_cons (d_var (pv 2)) (a_cons (d_idx o (d_var (pv 3)) (d_int)) (a_nil))))))) (w_one_or (t_not (t_val (d_callF ok_is_table o (G_is_table kin gn c) (a_cons (d_var (pv 1)) (a_cons (d_var (pv 2)) (a_cons (d_idx o (d_var (pv 3)) (d_int)) (a_nil)))))))))) (b_one (s_ret (d_bl))) (b_nil)))))) (b_one (s_ret (d_bl))))))
theorem ok_ordered : Fu g P w mg base 1 "ordered" "ordered" (top 22) ["table"] (f_ordered T) (He.ga g.K "ordered") := by
  refine fu_of (N := ["table", "key"]) sy (c.def_ 8 (d := ⟨("ordered", none), "ordered", "ordered", defArgs (top 22), defBody (top 22), defScope (top 22), [], []⟩) rfl) ⟨rfl, rfl, rfl, by decide +kernel, rfl, by decide +kernel, by decide +kernel⟩ (fun _ _ _ _ _ _ us hl => match us, hl with | [_], _ => rfl) fun cdv A outer s H o => ?_
  exact b_one (s_ret (d_dc [("key", 1)] o (i_any o (d_sorted2 o rfl (Z_sorted kin gn c) (d_var (pv 0)))) (blk_of (by kernel_rfl)) (fun _ _ _ _ _ => g_name o.blk.nd) (fun _ _ _ _ _ => c_nil) (fun _ _ _ _ _ => d_var (pv 1)) (fun _ _ _ _ _ => d_idx o.blk (d_var (pv 0)) (d_var (pv 1)))))
theorem ok_Net___init__ : FuI g P w mg base 5 ["self", "tables", "sources", "posts"] 0 (i_Net___init__ T) (He.ma g.K (He.ga g.K "Net") "__init__") := by
  have ok_Net_does_change := ok_Net_does_change (P := P) (w := w) (base := base) kin gn c hcl sy isc gt ok__law_take
  have ok_are_nodes := ok_are_nodes (P := P) (w := w) (base := base) kin gn c hcl sy isc gt ok__law_take
  have ok_are_tables := ok_are_tables (P := P) (w := w) (base := base) kin gn c hcl sy isc gt ok__law_take
  have ok_nodes_of := ok_nodes_of (P := P) (w := w) (base := base) kin gn c hcl sy isc gt ok__law_take
  have ok_ordered := ok_ordered (P := P) (w := w) (base := base) kin gn c hcl sy isc gt ok__law_take
  refine fui_of (N := ["self", "tables", "sources", "posts", "nodes", "goal", "node"]) (n := 3) sy (c.def_ 9 (d := ⟨("Net", some "__init__"), "__init__", "Net.__init__", defArgs (inClass (top 23) 0), defBody (inClass (top 23) 0), defScope (inClass (top 23) 0), [.adr (He.dflAt ("Net", some "__init__") 0), .adr (He.dflAt ("Net", some "__init__") 1)], []⟩) rfl) ⟨rfl, rfl, rfl, by decide +kernel, rfl, by decide +kernel, by decide +kernel⟩ (fun fd F => by obtain ⟨ds, v, b⟩ := F.binds1 (ps := ["self", "tables", "sources", "posts"]) 4 2 (fun z => nomatch z) rfl (fun T kV doc pm an cdv ct us its h1 h2 => match us, its, h1, h2 with | [_, _, _, _], [_, _], _, _ => ⟨_, rfl, rfl⟩); cases v; exact b) rfl (by decide) fun cdv A outer s H o => ?_
  exact bx_cons (sx_if (t_not (t_val (d_callF ok_are_tables o (G_are_tables kin gn c) (a_cons (d_var (pv 1)) (a_nil))))) (bx_cons (sx_no) (bx_nil)) (bx_nil)) (bx_cons (sx_set o.nd (d_callF ok_nodes_of o (G_nodes_of kin gn c) (a_cons (d_var (pv 1)) (a_nil)))) (bx_cons (sx_if (t_not (t_val (d_callF ok_are_nodes o (G_are_nodes kin gn c) (a_cons (d_var (pv 4)) (a_cons (d_var (pv 2)) (a_nil)))))) (bx_cons (sx_no) (bx_nil)) (bx_nil)) (bx_cons (sx_if (DW.t (w_or (t_not (t_val (d_callF ok_are_nodes o (G_are_nodes kin gn c) (a_cons (d_var (pv 4)) (a_cons (d_var (pv 3)) (a_nil)))))) (w_one_or (t_gtD (d_len' o rfl (Z_len kin gn c) (d_var (pv 3))) (d_gint rfl (V_MOST_POSTS kin gn c).choose_spec))))) (bx_cons (sx_no) (bx_nil)) (bx_nil)) (bx_cons (sx_fld (Cl_0 c hcl) (Na_0_own_tables c hcl) (ps_fld (pv 0) (d_dc [("goal", 5)] o (i_any o (d_sortG o rfl (Z_sorted kin gn c) (d_var (pv 1)))) (blk_of (by kernel_rfl)) (fun _ _ _ _ _ => g_name o.blk.nd) (fun _ _ _ _ _ => c_nil) (fun _ _ _ _ _ => d_var (pv 5)) (fun _ _ _ _ _ => d_tup (a_cons (d_callF ok_ordered o.blk (G_ordered kin gn c) (a_cons (d_idx o.blk (d_idx o.blk (d_var (pv 1)) (d_var (pv 5))) (d_int)) (a_nil))) (a_cons (d_callF ok_ordered o.blk (G_ordered kin gn c) (a_cons (d_idx o.blk (d_idx o.blk (d_var (pv 1)) (d_var (pv 5))) (d_int)) (a_nil))) (a_nil))))) rfl)) (bx_cons (sx_fld (Cl_0 c hcl) (Na_0_own_goals c hcl) (ps_fld (pv 0) (d_tup1 o rfl (Z_tuple kin gn c) (d_fld 0 (Cl_0 c hcl) (Na_0_own_tables c hcl) (d_var (pv 0)))) rfl)) (bx_cons (sx_fld (Cl_0 c hcl) (Na_0_own_nodes c hcl) (ps_fld (pv 0) (d_tup1 o rfl (Z_tuple kin gn c) (d_var (pv 4))) rfl)) (bx_cons (sx_fld (Cl_0 c hcl) (Na_0_own_sources c hcl) (ps_fld (pv 0) (d_tup1 o rfl (Z_tuple kin gn c) (d_sortG o rfl (Z_sorted kin gn c) (d_var (pv 2)))) rfl)) (bx_cons (sx_fld (Cl_0 c hcl) (Na_0_own_posts c hcl) (ps_fld (pv 0) (d_tup1 o rfl (Z_tuple kin gn c) (d_var (pv 3))) rfl)) (bx_cons (sx_fld (Cl_0 c hcl) (Na_0_own_changing c hcl) (ps_fld (pv 0) (d_tup1 o rfl (Z_tuple kin gn c) (d_lc [("node", 6)] o (i_any o (d_var (pv 4))) (blk_of (by kernel_rfl)) (fun _ _ _ _ _ => g_name o.blk.nd) (fun _ _ _ _ _ => c_one (t_val (d_meth ok_Net_does_change o.blk (Cl_0 c hcl) (Me_0_does_change c hcl) (d_var (pv 0)) (a_cons (d_var (pv 6)) (a_nil))))) (fun _ _ _ _ _ => d_var (pv 6)))) rfl)) (bx_nil))))))))))
theorem ok__law_net : Fu g P w mg base 7 "_law_net" "_law_net" (top 50) ["model"] (f__law_net T) (He.ga g.K "_law_net") := by
  have ok_Net___init__ := ok_Net___init__ (P := P) (w := w) (base := base) kin gn c hcl sy isc gt ok__law_take
  refine fu_of (N := ["model"]) sy (c.def_ 39 (d := ⟨("_law_net", none), "_law_net", "_law_net", defArgs (top 50), defBody (top 50), defScope (top 50), [], []⟩) rfl) ⟨rfl, rfl, rfl, by decide +kernel, rfl, by decide +kernel, by decide +kernel⟩ (fun _ _ _ _ _ _ us hl => match us, hl with | [_], _ => rfl) fun cdv A outer s H o => ?_
  exact b_one (s_ret (d_make 0 ok_Net___init__ o (Mk_0 c hcl) (GC_0 kin gn c hcl) (a_cons (d_idx o (d_var (pv 0)) (d_str)) (a_cons (d_idx o (d_var (pv 0)) (d_str)) (a_cons (d_idx o (d_var (pv 0)) (d_str)) (a_nil))))))
theorem ok_Net_tables : FuT g P w mg base 1 "tables" "Net.tables" (inClass (top 23) 2) ["self"] (t_Net_tables T) (gAd g.K "Net" "tables") := by
  refine fuT_of (N := ["self", "goal", "pair"]) sy (gt.get 0 (q := ⟨"Net", "tables", "tables", "Net.tables", inClass (top 23) 2⟩) rfl) ⟨rfl, rfl, rfl, by decide +kernel, rfl, by decide +kernel, by decide +kernel⟩ rfl (fun _ _ _ _ _ _ us hl => match us, hl with | [_], _ => rfl) fun cdv A outer s H o => ?_
  exact pss_one (ps_ret (pe_dp [("goal", 1), ("pair", 2)] o (i_items (d_fld 0 (Cl_0 c hcl) (Na_0_own_tables c hcl) (d_var (pv 0)))) (blk_of (by kernel_rfl)) (fun _ _ _ _ _ => g_tup o.blk (ts_cons (g_name o.blk.nd) (ts_cons (g_name o.blk.nd) (ts_nil)))) (fun _ _ _ _ _ => d_var (pv 1)) (fun _ _ _ _ _ => d_dict o.blk rfl (Z_dict kin gn c) (d_idx o.blk (d_var (pv 2)) (d_int))) (fun _ _ _ _ _ => d_dict o.blk rfl (Z_dict kin gn c) (d_idx o.blk (d_var (pv 2)) (d_int)))))
theorem ok_need_goal : Fu g P w mg base 1 "need_goal" "need_goal" (top 25) ["net", "goal"] (f_need_goal T) (He.ga g.K "need_goal") := by
  refine fu_of (N := ["net", "goal"]) sy (c.def_ 16 (d := ⟨("need_goal", none), "need_goal", "need_goal", defArgs (top 25), defBody (top 25), defScope (top 25), [], []⟩) rfl) ⟨rfl, rfl, rfl, by decide +kernel, rfl, by decide +kernel, by decide +kernel⟩ (fun _ _ _ _ _ _ us hl => match us, hl with | [_, _], _ => rfl) fun cdv A outer s H o => ?_
  exact b_one (s_if (DW.t (w_or (t_not (t_val (d_isi o rfl (Z_isinstance kin gn c) rfl (Z_str kin gn c) (d_var (pv 1))))) (w_one_or (t_nin o (d_var (pv 1)) (d_fld 0 (Cl_0 c hcl) (Na_0_own_goals c hcl) (d_var (pv 0))))))) (b_one (s_no)) (b_nil))
theorem ok_need_node : Fu g P w mg base 1 "need_node" "need_node" (top 26) ["net", "node"] (f_need_node T) (He.ga g.K "need_node") := by
  refine fu_of (N := ["net", "node"]) sy (c.def_ 17 (d := ⟨("need_node", none), "need_node", "need_node", defArgs (top 26), defBody (top 26), defScope (top 26), [], []⟩) rfl) ⟨rfl, rfl, rfl, by decide +kernel, rfl, by decide +kernel, by decide +kernel⟩ (fun _ _ _ _ _ _ us hl => match us, hl with | [_, _], _ => rfl) fun cdv A outer s H o => ?_
  exact b_one (s_if (DW.t (w_or (t_not (t_val (d_isi o rfl (Z_isinstance kin gn c) rfl (Z_str kin gn c) (d_var (pv 1))))) (w_one_or (t_nin o (d_var (pv 1)) (d_fld 0 (Cl_0 c hcl) (Na_0_own_nodes c hcl) (d_var (pv 0))))))) (b_one (s_no)) (b_nil))
theorem ok_Net_with_way : Fu g P w mg base 7 "with_way" "Net.with_way" (inClass (top 23) 10) ["self", "goal", "node", "is_new", "place"] (f_Net_with_way T) (He.ma g.K (He.ga g.K "Net") "with_way") := by
  have ok_Net___init__ := ok_Net___init__ (P := P) (w := w) (base := base) kin gn c hcl sy isc gt ok__law_take
  have ok_Net_tables := ok_Net_tables (P := P) (w := w) (base := base) kin gn c hcl sy isc gt ok__law_take
  have ok_is_place := ok_is_place (P := P) (w := w) (base := base) kin gn c hcl sy isc gt ok__law_take
  have ok_need_goal := ok_need_goal (P := P) (w := w) (base := base) kin gn c hcl sy isc gt ok__law_take
  have ok_need_node := ok_need_node (P := P) (w := w) (base := base) kin gn c hcl sy isc gt ok__law_take
  refine fu_of (N := ["self", "goal", "node", "is_new", "place", "tables"]) sy (c.def_ 12 (d := ⟨("Net", some "with_way"), "with_way", "Net.with_way", defArgs (inClass (top 23) 10), defBody (inClass (top 23) 10), defScope (inClass (top 23) 10), [], []⟩) rfl) ⟨rfl, rfl, rfl, by decide +kernel, rfl, by decide +kernel, by decide +kernel⟩ (fun _ _ _ _ _ _ us hl => match us, hl with | [_, _, _, _, _], _ => rfl) fun cdv A outer s H o => ?_
  exact b_cons (s_expr (d_callF ok_need_goal o (G_need_goal kin gn c) (a_cons (d_var (pv 0)) (a_cons (d_var (pv 1)) (a_nil))))) (b_cons (s_expr (d_callF ok_need_node o (G_need_node kin gn c) (a_cons (d_var (pv 0)) (a_cons (d_var (pv 2)) (a_nil))))) (b_cons (s_if (t_not (t_val (d_callF ok_is_place o (G_is_place kin gn c) (a_cons (d_fld 0 (Cl_0 c hcl) (Na_0_own_nodes c hcl) (d_var (pv 0))) (a_cons (d_var (pv 1)) (a_cons (d_var (pv 2)) (a_cons (d_var (pv 4)) (a_nil)))))))) (b_one (s_no)) (b_nil)) (b_tabs (ps_set o.nd rfl (by first | exact Or.inl rfl | exact Or.inr rfl) (pe_propT ok_Net_tables o (Cl_0 c hcl) (Pr_0_tables hcl gt) (pv 0))) (ps_asg (d_var (pv 4)) (pg_sub (pe_ixg o (pe_dgetS o (pv 5) (pv 1)) (d_if (t_val (d_var (pv 3))) (d_int) (d_int))) (pv 2) (set_dict o.hu))) (b_one (s_ret (d_make 0 ok_Net___init__ o (Mk_0 c hcl) (GC_0 kin gn c hcl) (a_cons (d_var (pv 5)) (a_cons (d_fld 0 (Cl_0 c hcl) (Na_0_own_sources c hcl) (d_var (pv 0))) (a_cons (d_fld 0 (Cl_0 c hcl) (Na_0_own_posts c hcl) (d_var (pv 0))) (a_nil))))))))))
theorem ok__law_moving_dots : Fu g P w mg base 1 "_law_moving_dots" "_law_moving_dots" (top 51) ["model"] (f__law_moving_dots T) (He.ga g.K "_law_moving_dots") := by
  refine fu_of (N := ["model", "found", "dot", "old", "new"]) sy (c.def_ 40 (d := ⟨("_law_moving_dots", none), "_law_moving_dots", "_law_moving_dots", defArgs (top 51), defBody (top 51), defScope (top 51), [], []⟩) rfl) ⟨rfl, rfl, rfl, by decide +kernel, rfl, by decide +kernel, by decide +kernel⟩ (fun _ _ _ _ _ _ us hl => match us, hl with | [_], _ => rfl) fun cdv A outer s H o => ?_
  exact b_cons (s_set o.nd (d_lst (a_nil))) (b_cons (s_for .never rfl (i_any o (d_idx o (d_var (pv 0)) (d_str))) (g_name o.nd) (b_one (s_if (t_ne o (d_lc [("old", 3), ("new", 4)] o (i_vals (d_idx o (d_var (pv 0)) (d_str))) (blk_of (by kernel_rfl)) (fun _ _ _ _ _ => g_tup o.blk (ts_cons (g_name o.blk.nd) (ts_cons (g_name o.blk.nd) (ts_nil)))) (fun _ _ _ _ _ => c_one (t_ne o.blk (d_idx o.blk (d_var (pv 3)) (d_var (pv 2))) (d_idx o.blk (d_var (pv 4)) (d_var (pv 2))))) (fun _ _ _ _ _ => d_int)) (d_lst (a_nil))) (b_one (s_expr (d_mL m_app (pe_bm PySem.F.plainAttrs_list PySem.F.slot_list_append PySem.F.type_list_append mt_append (pv 1) (a_cons (d_var (pv 2)) (a_nil)))))) (b_nil)))) (b_one (s_ret (d_var (pv 1)))))
theorem ok__law_are_moving : Fu g P w mg base 2 "_law_are_moving" "_law_are_moving" (top 56) ["model", "some"] (f__law_are_moving T) (He.ga g.K "_law_are_moving") := by
  have ok__law_moving_dots := ok__law_moving_dots (P := P) (w := w) (base := base) kin gn c hcl sy isc gt ok__law_take
  refine fu_of (N := ["model", "some", "dot"]) sy (c.def_ 45 (d := ⟨("_law_are_moving", none), "_law_are_moving", "_law_are_moving", defArgs (top 56), defBody (top 56), defScope (top 56), [], []⟩) rfl) ⟨rfl, rfl, rfl, by decide +kernel, rfl, by decide +kernel, by decide +kernel⟩ (fun _ _ _ _ _ _ us hl => match us, hl with | [_, _], _ => rfl) fun cdv A outer s H o => ?_
  exact b_one (s_ret (d_eq o (d_lc [("dot", 2)] o (i_any o (d_var (pv 1))) (blk_of (by kernel_rfl)) (fun _ _ _ _ _ => g_name o.blk.nd) (fun _ _ _ _ _ => c_one (t_nin o.blk (d_var (pv 2)) (d_callF ok__law_moving_dots o.blk (G__law_moving_dots kin gn c) (a_cons (d_var (pv 0)) (a_nil))))) (fun _ _ _ _ _ => d_var (pv 2))) (d_lst (a_nil))))
theorem ok__law_other : Fu g P w mg base 5 "_law_other" "_law_other" (top 55) ["draw", "model"] (f__law_other T) (He.ga g.K "_law_other") := by
  have ok__law_pick := ok__law_pick (P := P) (w := w) (base := base) kin gn c hcl sy isc gt ok__law_take
  refine fu_of (N := ["draw", "model", "found", "end", "dot", "at", "rows", "spots", "row", "spot"]) sy (c.def_ 44 (d := ⟨("_law_other", none), "_law_other", "_law_other", defArgs (top 55), defBody (top 55), defScope (top 55), [], []⟩) rfl) ⟨rfl, rfl, rfl, by decide +kernel, rfl, by decide +kernel, by decide +kernel⟩ (fun _ _ _ _ _ _ us hl => match us, hl with | [_, _], _ => rfl) fun cdv A outer s H o => ?_
  exact b_cons (s_parT rfl (h_cons (d_dict o rfl (Z_dict kin gn c) (d_var (pv 1))) (h_cons (d_callF ok__law_pick o (G__law_pick kin gn c) (a_cons (d_var (pv 0)) (a_cons (d_sorted2 o rfl (Z_sorted kin gn c) (d_idx o (d_var (pv 1)) (d_str))) (a_nil)))) (h_cons (d_callF ok__law_pick o (G__law_pick kin gn c) (a_cons (d_var (pv 0)) (a_cons (d_idx o (d_var (pv 1)) (d_str)) (a_nil)))) (h_nil)))) (gs_cons o.nd (gs_cons o.nd (gs_cons o.nd (gs_nil))))) (b_cons (s_set o.nd (d_callF ok__law_take o (G__law_take kin gn c) (a_cons (d_var (pv 0)) (a_cons (d_int) (a_nil))))) (b_rows (ps_rowsC [("row", 8)] o (i_any o (d_idx o (d_idx o (d_var (pv 1)) (d_str)) (d_var (pv 3)))) (blk_of (by kernel_rfl)) (fun _ _ _ _ _ => g_name o.blk.nd) (fun _ _ _ _ _ => d_dict o.blk rfl (Z_dict kin gn c) (d_var (pv 8)))) (ps_spots [("spot", 9)] o (i_any o (d_add o (d_idx o (d_var (pv 1)) (d_str)) (d_lst (a_cons (d_var (pv 3)) (a_cons (d_non) (a_nil)))))) (blk_of (by kernel_rfl)) (fun _ _ _ _ _ => g_name o.blk.nd) (fun _ _ _ _ _ => c_one (t_nin o.blk (d_var (pv 9)) (d_lst (a_cons (d_var (pv 4)) (a_cons (d_idx o.blk (d_idx o.blk (d_var (pv 6)) (d_var (pv 5))) (d_var (pv 4))) (a_nil)))))) (fun _ _ _ _ _ => d_var (pv 9)) (sw_true rfl rfl rfl rfl)) (ps_asg (d_callF ok__law_pick o (G__law_pick kin gn c) (a_cons (d_var (pv 0)) (a_cons (d_var (pv 7)) (a_nil)))) (pg_sub (pe_row (pv 6) (pv 5)) (pv 4) (set_dict o.hu))) (b_putP (ps_asg (d_dict o rfl (Z_dict kin gn c) (d_idx o (d_var (pv 1)) (d_str))) (pg_sub (pv 2) pe_str (set_dict o.hu))) (ps_asg (d_tup1 o rfl (Z_tuple kin gn c) (d_var (pv 6))) (pg_sub (pe_dgetS o (pv 2) pe_str) (pv 3) (set_dict o.hu))) (b_one (s_ret (d_tup (a_cons (d_var (pv 2)) (a_cons (d_var (pv 3)) (a_cons (d_var (pv 4)) (a_cons (d_eq o (d_var (pv 5)) (d_int)) (a_cons (d_idx o (d_idx o (d_var (pv 6)) (d_var (pv 5))) (d_var (pv 4))) (a_nil))))))))))))
theorem ok__law_rings : Fu g P w mg base 1 "_law_rings" "_law_rings" (top 54) ["web"] (f__law_rings T) (He.ga g.K "_law_rings") := by
  refine fu_of (N := ["web", "found", "line", "path", "spot", "size", "dot"]) sy (c.def_ 43 (d := ⟨("_law_rings", none), "_law_rings", "_law_rings", defArgs (top 54), defBody (top 54), defScope (top 54), [], []⟩) rfl) ⟨rfl, rfl, rfl, by decide +kernel, rfl, by decide +kernel, by decide +kernel⟩ (fun _ _ _ _ _ _ us hl => match us, hl with | [_], _ => rfl) fun cdv A outer s H o => ?_
  exact b_cons (s_par2' rfl o.nd (h_cons (d_lst (a_nil)) (h_cons (d_lc [("dot", 6)] o (i_any o (d_var (pv 0))) (blk_of (by kernel_rfl)) (fun _ _ _ _ _ => g_name o.blk.nd) (fun _ _ _ _ _ => c_nil) (fun _ _ _ _ _ => d_tup (a_cons (d_var (pv 6)) (a_nil)))) (h_nil)))) (b_cons (s_while .never (t_ne o (d_var (pv 2)) (d_lst (a_nil))) (b_cons (s_set o.nd (d_mL0 m_pop (pe_bm0 PySem.F.plainAttrs_list PySem.F.slot_list_pop PySem.F.type_list_pop mt_pop (pv 2)))) (b_one (s_for .never rfl (i_any o (d_idx o (d_var (pv 0)) (d_idx o (d_var (pv 3)) (d_neg (d_int))))) (g_name o.nd) (b_one (s_if (t_eq o (d_var (pv 4)) (d_idx o (d_var (pv 3)) (d_int))) (b_one (s_expr (d_mL m_app (pe_bm PySem.F.plainAttrs_list PySem.F.slot_list_append PySem.F.type_list_append mt_append (pv 1) (a_cons (d_var (pv 3)) (a_nil)))))) (b_one (s_if (DW.t (w_and (t_in o (d_var (pv 4)) (d_var (pv 0))) (w_and (t_nin o (d_var (pv 4)) (d_var (pv 3))) (w_one_and (t_gtD (d_var (pv 4)) (d_idx o (d_var (pv 3)) (d_int))))))) (b_one (s_expr (d_mL m_app (pe_bm PySem.F.plainAttrs_list PySem.F.slot_list_append PySem.F.type_list_append mt_append (pv 2) (a_cons (d_add o (d_var (pv 3)) (d_tup (a_cons (d_var (pv 4)) (a_nil)))) (a_nil)))))) (b_nil))))))))) (b_one (s_ret (d_lc [("size", 5), ("path", 3)] o (i_any o (d_sorted2 o rfl (Z_sorted kin gn c) (d_lc [("path", 3)] o (i_any o (d_var (pv 1))) (blk_of (by kernel_rfl)) (fun _ _ _ _ _ => g_name o.blk.nd) (fun _ _ _ _ _ => c_nil) (fun _ _ _ _ _ => d_tup (a_cons (d_len' o.blk rfl (Z_len kin gn c) (d_var (pv 3))) (a_cons (d_var (pv 3)) (a_nil))))))) (blk_of (by kernel_rfl)) (fun _ _ _ _ _ => g_tup o.blk (ts_cons (g_name o.blk.nd) (ts_cons (g_name o.blk.nd) (ts_nil)))) (fun _ _ _ _ _ => c_nil) (fun _ _ _ _ _ => d_var (pv 3))))))
theorem ok__law_web : Fu g P w mg base 1 "_law_web" "_law_web" (top 52) ["model", "end", "ready", "part"] (f__law_web T) (He.ga g.K "_law_web") := by
  refine fu_of (N := ["model", "end", "ready", "part", "old", "new", "found", "dot", "spots"]) sy (c.def_ 41 (d := ⟨("_law_web", none), "_law_web", "_law_web", defArgs (top 52), defBody (top 52), defScope (top 52), [], []⟩) rfl) ⟨rfl, rfl, rfl, by decide +kernel, rfl, by decide +kernel, by decide +kernel⟩ (fun _ _ _ _ _ _ us hl => match us, hl with | [_, _, _, _], _ => rfl) fun cdv A outer s H o => ?_
  exact b_cons (s_unp (d_idx o (d_idx o (d_var (pv 0)) (d_str)) (d_var (pv 1))) (g_tup o (ts_cons (g_name o.nd) (ts_cons (g_name o.nd) (ts_nil))))) (b_cons (s_set o.nd (d_dct0)) (b_cons (s_for .never rfl (i_any o (d_idx o (d_var (pv 0)) (d_str))) (g_name o.nd) (b_cons (s_set o.nd (d_if (t_in o (d_var (pv 7)) (d_var (pv 2))) (d_lst (a_cons (d_idx o (d_var (pv 5)) (d_var (pv 7))) (a_nil))) (d_lst (a_cons (d_idx o (d_var (pv 4)) (d_var (pv 7))) (a_nil))))) (b_one (s_put o (pv 6) (d_var (pv 7)) (d_add o (d_var (pv 8)) (d_mul (d_lst (a_cons (d_idx o (d_var (pv 5)) (d_var (pv 7))) (a_nil))) (d_int1 rfl (Z_int kin gn c) (d_and (d_in o (d_var (pv 7)) (d_var (pv 3))) (d_one (d_ne o (d_idx o (d_var (pv 5)) (d_var (pv 7))) (d_idx o (d_var (pv 4)) (d_var (pv 7))))))))) (pg_sub (pv 6) (d_var (pv 7)) (PSet.or set_list (set_dict o.hu))))))) (b_one (s_ret (d_var (pv 6))))))
theorem ok_mixture : Fu g P w mg base 1 "mixture" "mixture" (top 31) ["net", "done", "lot", "goal"] (f_mixture T) (He.ga g.K "mixture") := by
  refine fu_of (N := ["net", "done", "lot", "goal", "old", "new", "found", "node"]) sy (c.def_ 21 (d := ⟨("mixture", none), "mixture", "mixture", defArgs (top 31), defBody (top 31), defScope (top 31), [], []⟩) rfl) ⟨rfl, rfl, rfl, by decide +kernel, rfl, by decide +kernel, by decide +kernel⟩ (fun _ _ _ _ _ _ us hl => match us, hl with | [_, _, _, _], _ => rfl) fun cdv A outer s H o => ?_
  exact b_cons (s_unp (d_idx o (d_fld 0 (Cl_0 c hcl) (Na_0_own_tables c hcl) (d_var (pv 0))) (d_var (pv 3))) (g_tup o (ts_cons (g_name o.nd) (ts_cons (g_name o.nd) (ts_nil))))) (b_cons (s_set o.nd (d_dct0)) (b_cons (s_for .never rfl (i_any o (d_fld 0 (Cl_0 c hcl) (Na_0_own_nodes c hcl) (d_var (pv 0)))) (g_name o.nd) (b_one (s_if (t_in o (d_var (pv 7)) (d_var (pv 1))) (b_one (s_put o (pv 6) (d_var (pv 7)) (d_lst (a_cons (d_idx o (d_var (pv 5)) (d_var (pv 7))) (a_nil))) (pg_sub (pv 6) (d_var (pv 7)) (PSet.or set_list (set_dict o.hu))))) (b_one (s_if (DW.t (w_and (t_in o (d_var (pv 7)) (d_var (pv 2))) (w_one_and (t_ne o (d_idx o (d_var (pv 5)) (d_var (pv 7))) (d_idx o (d_var (pv 4)) (d_var (pv 7))))))) (b_one (s_put o (pv 6) (d_var (pv 7)) (d_lst (a_cons (d_idx o (d_var (pv 4)) (d_var (pv 7))) (a_cons (d_idx o (d_var (pv 5)) (d_var (pv 7))) (a_nil)))) (pg_sub (pv 6) (d_var (pv 7)) (PSet.or set_list (set_dict o.hu))))) (b_one (s_put o (pv 6) (d_var (pv 7)) (d_lst (a_cons (d_idx o (d_var (pv 4)) (d_var (pv 7))) (a_nil))) (pg_sub (pv 6) (d_var (pv 7)) (PSet.or set_list (set_dict o.hu)))))))))) (b_one (s_ret (d_var (pv 6))))))
theorem ok_is_lot : Fu g P w mg base 1 "is_lot" "is_lot" (top 28) ["net", "thing"] (f_is_lot T) (He.ga g.K "is_lot") := by
  refine fu_of (N := ["net", "thing", "one", "other", "node"]) sy (c.def_ 18 (d := ⟨("is_lot", none), "is_lot", "is_lot", defArgs (top 28), defBody (top 28), defScope (top 28), [], []⟩) rfl) ⟨rfl, rfl, rfl, by decide +kernel, rfl, by decide +kernel, by decide +kernel⟩ (fun _ _ _ _ _ _ us hl => match us, hl with | [_, _], _ => rfl) fun cdv A outer s H o => ?_
  exact b_cons (s_if (DW.t (w_or (t_not (t_val (d_isi o rfl (Z_isinstance kin gn c) rfl (Z_tuple kin gn c) (d_var (pv 1))))) (w_one_or (t_not (t_val (d_all o rfl (Z_all kin gn c) (d_lc [("node", 4)] o (i_any o (d_var (pv 1))) (blk_of (by kernel_rfl)) (fun _ _ _ _ _ => g_name o.blk.nd) (fun _ _ _ _ _ => c_nil) (fun _ _ _ _ _ => d_and (d_isi o.blk rfl (Z_isinstance kin gn c) rfl (Z_str kin gn c) (d_var (pv 4))) (d_one (d_in o.blk (d_var (pv 4)) (d_fld 0 (Cl_0 c hcl) (Na_0_own_changing c hcl) (d_var (pv 0))))))))))))) (b_one (s_ret (d_bl))) (b_nil)) (b_one (s_ret (d_all o rfl (Z_all kin gn c) (d_lc [("one", 2), ("other", 3)] o (i_zip o rfl (Z_zip kin gn c) (a_cons (d_var (pv 1)) (a_cons (d_slice o (d_var (pv 1)) (o_some (d_int)) (o_none)) (a_nil)))) (blk_of (by kernel_rfl)) (fun _ _ _ _ _ => g_tup o.blk (ts_cons (g_name o.blk.nd) (ts_cons (g_name o.blk.nd) (ts_nil)))) (fun _ _ _ _ _ => c_nil) (fun _ _ _ _ _ => d_lt (d_var (pv 2)) (d_var (pv 3)))))))
theorem ok_need_done : Fu g P w mg base 2 "need_done" "need_done" (top 29) ["net", "done"] (f_need_done T) (He.ga g.K "need_done") := by
  have ok_is_lot := ok_is_lot (P := P) (w := w) (base := base) kin gn c hcl sy isc gt ok__law_take
  refine fu_of (N := ["net", "done"]) sy (c.def_ 19 (d := ⟨("need_done", none), "need_done", "need_done", defArgs (top 29), defBody (top 29), defScope (top 29), [], []⟩) rfl) ⟨rfl, rfl, rfl, by decide +kernel, rfl, by decide +kernel, by decide +kernel⟩ (fun _ _ _ _ _ _ us hl => match us, hl with | [_, _], _ => rfl) fun cdv A outer s H o => ?_
  exact b_one (s_if (t_not (t_val (d_callF ok_is_lot o (G_is_lot kin gn c) (a_cons (d_var (pv 0)) (a_cons (d_var (pv 1)) (a_nil)))))) (b_one (s_no)) (b_nil))
theorem ok_need_net : Fu g P w mg base 1 "need_net" "need_net" (top 24) ["net"] (f_need_net T) (He.ga g.K "need_net") := by
  refine fu_of (N := ["net"]) sy (c.def_ 15 (d := ⟨("need_net", none), "need_net", "need_net", defArgs (top 24), defBody (top 24), defScope (top 24), [], []⟩) rfl) ⟨rfl, rfl, rfl, by decide +kernel, rfl, by decide +kernel, by decide +kernel⟩ (fun _ _ _ _ _ _ us hl => match us, hl with | [_], _ => rfl) fun cdv A outer s H o => ?_
  exact b_one (s_if (t_not (t_val (d_isiC 0 o rfl (Z_isinstance kin gn c) rfl (GC_0 kin gn c hcl) (isc_0 c hcl isc) (d_var (pv 0))))) (b_one (s_no)) (b_nil))
theorem ok_need_round : Fu g P w mg base 3 "need_round" "need_round" (top 30) ["net", "done", "lot"] (f_need_round T) (He.ga g.K "need_round") := by
  have ok_is_lot := ok_is_lot (P := P) (w := w) (base := base) kin gn c hcl sy isc gt ok__law_take
  have ok_need_done := ok_need_done (P := P) (w := w) (base := base) kin gn c hcl sy isc gt ok__law_take
  have ok_need_net := ok_need_net (P := P) (w := w) (base := base) kin gn c hcl sy isc gt ok__law_take
  refine fu_of (N := ["net", "done", "lot", "node"]) sy (c.def_ 20 (d := ⟨("need_round", none), "need_round", "need_round", defArgs (top 30), defBody (top 30), defScope (top 30), [], []⟩) rfl) ⟨rfl, rfl, rfl, by decide +kernel, rfl, by decide +kernel, by decide +kernel⟩ (fun _ _ _ _ _ _ us hl => match us, hl with | [_, _, _], _ => rfl) fun cdv A outer s H o => ?_
  exact b_cons (s_expr (d_callF ok_need_net o (G_need_net kin gn c) (a_cons (d_var (pv 0)) (a_nil)))) (b_cons (s_expr (d_callF ok_need_done o (G_need_done kin gn c) (a_cons (d_var (pv 0)) (a_cons (d_var (pv 1)) (a_nil))))) (b_one (s_if (DW.t (w_or (t_not (t_val (d_callF ok_is_lot o (G_is_lot kin gn c) (a_cons (d_var (pv 0)) (a_cons (d_var (pv 2)) (a_nil)))))) (w_one_or (t_val (d_any o rfl (Z_any kin gn c) (d_lc [("node", 3)] o (i_any o (d_var (pv 2))) (blk_of (by kernel_rfl)) (fun _ _ _ _ _ => g_name o.blk.nd) (fun _ _ _ _ _ => c_nil) (fun _ _ _ _ _ => d_in o.blk (d_var (pv 3)) (d_var (pv 1))))))))) (b_one (s_no)) (b_nil))))
theorem ok_next_nodes : Fu g P w mg base 1 "next_nodes" "next_nodes" (top 32) ["web", "node"] (f_next_nodes T) (He.ga g.K "next_nodes") := by
  refine fu_of (N := ["web", "node", "place"]) sy (c.def_ 22 (d := ⟨("next_nodes", none), "next_nodes", "next_nodes", defArgs (top 32), defBody (top 32), defScope (top 32), [], []⟩) rfl) ⟨rfl, rfl, rfl, by decide +kernel, rfl, by decide +kernel, by decide +kernel⟩ (fun _ _ _ _ _ _ us hl => match us, hl with | [_, _], _ => rfl) fun cdv A outer s H o => ?_
  exact b_one (s_ret (d_lc [("place", 2)] o (i_any o (d_idx o (d_var (pv 0)) (d_var (pv 1)))) (blk_of (by kernel_rfl)) (fun _ _ _ _ _ => g_name o.blk.nd) (fun _ _ _ _ _ => c_one (t_in o.blk (d_var (pv 2)) (d_var (pv 0)))) (fun _ _ _ _ _ => d_var (pv 2))))
theorem ok_rings_from : Fu g P w mg base 2 "rings_from" "rings_from" (top 34) ["web", "node", "size"] (f_rings_from T) (He.ga g.K "rings_from") := by
  have ok_next_nodes := ok_next_nodes (P := P) (w := w) (base := base) kin gn c hcl sy isc gt ok__law_take
  refine fu_of (N := ["web", "node", "size", "paths", "turn", "longer", "path", "place"]) sy (c.def_ 24 (d := ⟨("rings_from", none), "rings_from", "rings_from", defArgs (top 34), defBody (top 34), defScope (top 34), [], []⟩) rfl) ⟨rfl, rfl, rfl, by decide +kernel, rfl, by decide +kernel, by decide +kernel⟩ (fun _ _ _ _ _ _ us hl => match us, hl with | [_, _, _], _ => rfl) fun cdv A outer s H o => ?_
  exact b_cons (s_set o.nd (d_lst (a_cons (d_tup (a_cons (d_var (pv 1)) (a_nil))) (a_nil)))) (b_cons (s_for .never rfl (i_range1 rfl (Z_range kin gn c) (d_sub (d_var (pv 2)) (d_int))) (g_name o.nd) (b_cons (s_set o.nd (d_lst (a_nil))) (b_cons (s_for .never rfl (i_any o (d_var (pv 3))) (g_name o.nd) (b_one (s_expr (d_ext (pe_bm PySem.F.plainAttrs_list PySem.F.slot_list_extend PySem.F.type_list_extend mt_extend (pv 5) (a_cons (d_lc [("place", 7)] o (i_any o (d_callF ok_next_nodes o (G_next_nodes kin gn c) (a_cons (d_var (pv 0)) (a_cons (d_idx o (d_var (pv 6)) (d_neg (d_int))) (a_nil))))) (blk_of (by kernel_rfl)) (fun _ _ _ _ _ => g_name o.blk.nd) (fun _ _ _ _ _ => c_one (DW.t (w_and (t_gtD (d_var (pv 7)) (d_var (pv 1))) (w_one_and (t_nin o.blk (d_var (pv 7)) (d_var (pv 6))))))) (fun _ _ _ _ _ => d_starT o.blk (d_var (pv 6)) (a_cons (d_var (pv 7)) (a_nil)))) (a_nil))))))) (b_one (s_set o.nd (d_var (pv 5))))))) (b_one (s_ret (d_lc [("path", 6)] o (i_any o (d_var (pv 3))) (blk_of (by kernel_rfl)) (fun _ _ _ _ _ => g_name o.blk.nd) (fun _ _ _ _ _ => c_one (t_in o.blk (d_var (pv 1)) (d_idx o.blk (d_var (pv 0)) (d_idx o.blk (d_var (pv 6)) (d_neg (d_int)))))) (fun _ _ _ _ _ => d_var (pv 6))))))
theorem ok_ring_in : Fu g P w mg base 3 "ring_in" "ring_in" (top 35) ["web"] (f_ring_in T) (He.ga g.K "ring_in") := by
  have ok_rings_from := ok_rings_from (P := P) (w := w) (base := base) kin gn c hcl sy isc gt ok__law_take
  refine fu_of (N := ["web", "size", "rings", "node"]) sy (c.def_ 25 (d := ⟨("ring_in", none), "ring_in", "ring_in", defArgs (top 35), defBody (top 35), defScope (top 35), [], []⟩) rfl) ⟨rfl, rfl, rfl, by decide +kernel, rfl, by decide +kernel, by decide +kernel⟩ (fun _ _ _ _ _ _ us hl => match us, hl with | [_], _ => rfl) fun cdv A outer s H o => ?_
  exact b_cons (s_for .never rfl (i_range2 rfl (Z_range kin gn c) (d_int) (d_add o (d_len' o rfl (Z_len kin gn c) (d_var (pv 0))) (d_int))) (g_name o.nd) (b_cons (s_set o.nd (d_lst (a_nil))) (b_cons (s_for .never rfl (i_any o (d_var (pv 0))) (g_name o.nd) (b_one (s_expr (d_ext (pe_bm PySem.F.plainAttrs_list PySem.F.slot_list_extend PySem.F.type_list_extend mt_extend (pv 2) (a_cons (d_callF ok_rings_from o (G_rings_from kin gn c) (a_cons (d_var (pv 0)) (a_cons (d_var (pv 3)) (a_cons (d_var (pv 1)) (a_nil))))) (a_nil))))))) (b_one (s_if (t_gtD (d_len' o rfl (Z_len kin gn c) (d_var (pv 2))) (d_int)) (b_one (s_ret (d_minF o rfl (Z_min kin gn c) (d_var (pv 2))))) (b_nil)))))) (b_one (s_ret (d_non)))
theorem ok_ring : Fu g P w mg base 4 "ring" "ring" (top 36) ["net", "done", "lot", "goal"] (f_ring T) (He.ga g.K "ring") := by
  have ok_mixture := ok_mixture (P := P) (w := w) (base := base) kin gn c hcl sy isc gt ok__law_take
  have ok_need_goal := ok_need_goal (P := P) (w := w) (base := base) kin gn c hcl sy isc gt ok__law_take
  have ok_need_round := ok_need_round (P := P) (w := w) (base := base) kin gn c hcl sy isc gt ok__law_take
  have ok_ring_in := ok_ring_in (P := P) (w := w) (base := base) kin gn c hcl sy isc gt ok__law_take
  refine fu_of (N := ["net", "done", "lot", "goal"]) sy (c.def_ 26 (d := ⟨("ring", none), "ring", "ring", defArgs (top 36), defBody (top 36), defScope (top 36), [], []⟩) rfl) ⟨rfl, rfl, rfl, by decide +kernel, rfl, by decide +kernel, by decide +kernel⟩ (fun _ _ _ _ _ _ us hl => match us, hl with | [_, _, _, _], _ => rfl) fun cdv A outer s H o => ?_
  exact b_cons (s_expr (d_callF ok_need_round o (G_need_round kin gn c) (a_cons (d_var (pv 0)) (a_cons (d_var (pv 1)) (a_cons (d_var (pv 2)) (a_nil)))))) (b_cons (s_expr (d_callF ok_need_goal o (G_need_goal kin gn c) (a_cons (d_var (pv 0)) (a_cons (d_var (pv 3)) (a_nil))))) (b_one (s_ret (d_callF ok_ring_in o (G_ring_in kin gn c) (a_cons (d_callF ok_mixture o (G_mixture kin gn c) (a_cons (d_var (pv 0)) (a_cons (d_var (pv 1)) (a_cons (d_var (pv 2)) (a_cons (d_var (pv 3)) (a_nil)))))) (a_nil))))))
theorem ok_ways : Fu g P w mg base 4 "ways" "ways" (top 33) ["net", "done", "lot", "goal"] (f_ways T) (He.ga g.K "ways") := by
  have ok_mixture := ok_mixture (P := P) (w := w) (base := base) kin gn c hcl sy isc gt ok__law_take
  have ok_need_goal := ok_need_goal (P := P) (w := w) (base := base) kin gn c hcl sy isc gt ok__law_take
  have ok_need_round := ok_need_round (P := P) (w := w) (base := base) kin gn c hcl sy isc gt ok__law_take
  refine fu_of (N := ["net", "done", "lot", "goal"]) sy (c.def_ 23 (d := ⟨("ways", none), "ways", "ways", defArgs (top 33), defBody (top 33), defScope (top 33), [], []⟩) rfl) ⟨rfl, rfl, rfl, by decide +kernel, rfl, by decide +kernel, by decide +kernel⟩ (fun _ _ _ _ _ _ us hl => match us, hl with | [_, _, _, _], _ => rfl) fun cdv A outer s H o => ?_
  exact b_cons (s_expr (d_callF ok_need_round o (G_need_round kin gn c) (a_cons (d_var (pv 0)) (a_cons (d_var (pv 1)) (a_cons (d_var (pv 2)) (a_nil)))))) (b_cons (s_expr (d_callF ok_need_goal o (G_need_goal kin gn c) (a_cons (d_var (pv 0)) (a_cons (d_var (pv 3)) (a_nil))))) (b_one (s_ret (d_callF ok_mixture o (G_mixture kin gn c) (a_cons (d_var (pv 0)) (a_cons (d_var (pv 1)) (a_cons (d_var (pv 2)) (a_cons (d_var (pv 3)) (a_nil)))))))))
theorem ok__law_other_right : Fu g P w mg base 8 "_law_other_right" "_law_other_right" (top 57) ["draw", "model", "made", "ready", "part"] (f__law_other_right T) (He.ga g.K "_law_other_right") := by
  have ok_Net_with_way := ok_Net_with_way (P := P) (w := w) (base := base) kin gn c hcl sy isc gt ok__law_take
  have ok__law_are_moving := ok__law_are_moving (P := P) (w := w) (base := base) kin gn c hcl sy isc gt ok__law_take
  have ok__law_other := ok__law_other (P := P) (w := w) (base := base) kin gn c hcl sy isc gt ok__law_take
  have ok__law_rings := ok__law_rings (P := P) (w := w) (base := base) kin gn c hcl sy isc gt ok__law_take
  have ok__law_web := ok__law_web (P := P) (w := w) (base := base) kin gn c hcl sy isc gt ok__law_take
  have ok_ring := ok_ring (P := P) (w := w) (base := base) kin gn c hcl sy isc gt ok__law_take
  have ok_ways := ok_ways (P := P) (w := w) (base := base) kin gn c hcl sy isc gt ok__law_take
  refine fu_of (N := ["draw", "model", "made", "ready", "part", "other", "end", "dot", "is_late", "spot", "near", "web", "some", "due"]) sy (c.def_ 46 (d := ⟨("_law_other_right", none), "_law_other_right", "_law_other_right", defArgs (top 57), defBody (top 57), defScope (top 57), [], []⟩) rfl) ⟨rfl, rfl, rfl, by decide +kernel, rfl, by decide +kernel, by decide +kernel⟩ (fun _ _ _ _ _ _ us hl => match us, hl with | [_, _, _, _, _], _ => rfl) fun cdv A outer s H o => ?_
  exact b_cons (s_unp (d_callF ok__law_other o (G__law_other kin gn c) (a_cons (d_var (pv 0)) (a_cons (d_var (pv 1)) (a_nil)))) (g_tup o (ts_cons (g_name o.nd) (ts_cons (g_name o.nd) (ts_cons (g_name o.nd) (ts_cons (g_name o.nd) (ts_cons (g_name o.nd) (ts_nil)))))))) (b_cons (s_if (t_not (t_val (d_callF ok__law_are_moving o (G__law_are_moving kin gn c) (a_cons (d_var (pv 5)) (a_cons (d_add o (d_var (pv 3)) (d_var (pv 4))) (a_nil)))))) (b_one (s_ret (d_bl))) (b_nil)) (b_cons (s_par2' rfl o.nd (h_cons (d_meth ok_Net_with_way o (Cl_0 c hcl) (Me_0_with_way c hcl) (d_var (pv 2)) (a_cons (d_var (pv 6)) (a_cons (d_var (pv 7)) (a_cons (d_var (pv 8)) (a_cons (d_var (pv 9)) (a_nil)))))) (h_cons (d_callF ok__law_web o (G__law_web kin gn c) (a_cons (d_var (pv 5)) (a_cons (d_var (pv 6)) (a_cons (d_var (pv 3)) (a_cons (d_var (pv 4)) (a_nil)))))) (h_nil)))) (b_cons (s_set o.nd (d_callF ok__law_rings o (G__law_rings kin gn c) (a_cons (d_var (pv 11)) (a_nil)))) (b_cons (s_set o.nd (d_if (t_ne o (d_var (pv 12)) (d_lst (a_nil))) (d_idx o (d_var (pv 12)) (d_int)) (d_non))) (b_one (s_ret (d_eq o (d_repr o rfl (Z_repr kin gn c) (d_lst (a_cons (d_callF ok_ring o (G_ring kin gn c) (a_cons (d_var (pv 10)) (a_cons (d_var (pv 3)) (a_cons (d_var (pv 4)) (a_cons (d_var (pv 6)) (a_nil)))))) (a_cons (d_callF ok_ways o (G_ways kin gn c) (a_cons (d_var (pv 10)) (a_cons (d_var (pv 3)) (a_cons (d_var (pv 4)) (a_cons (d_var (pv 6)) (a_nil)))))) (a_nil))))) (d_repr o rfl (Z_repr kin gn c) (d_lst (a_cons (d_var (pv 13)) (a_cons (d_var (pv 11)) (a_nil))))))))))))
theorem ok__law_round : Fu g P w mg base 5 "_law_round" "_law_round" (top 53) ["draw", "model"] (f__law_round T) (He.ga g.K "_law_round") := by
  have ok__law_mixed := ok__law_mixed (P := P) (w := w) (base := base) kin gn c hcl sy isc gt ok__law_take
  have ok__law_moving_dots := ok__law_moving_dots (P := P) (w := w) (base := base) kin gn c hcl sy isc gt ok__law_take
  have ok__law_pick := ok__law_pick (P := P) (w := w) (base := base) kin gn c hcl sy isc gt ok__law_take
  refine fu_of (N := ["draw", "model", "some", "at", "rest", "size"]) sy (c.def_ 42 (d := ⟨("_law_round", none), "_law_round", "_law_round", defArgs (top 53), defBody (top 53), defScope (top 53), [], []⟩) rfl) ⟨rfl, rfl, rfl, by decide +kernel, rfl, by decide +kernel, by decide +kernel⟩ (fun _ _ _ _ _ _ us hl => match us, hl with | [_, _], _ => rfl) fun cdv A outer s H o => ?_
  exact b_cons (s_set o.nd (d_callF ok__law_mixed o (G__law_mixed kin gn c) (a_cons (d_var (pv 0)) (a_cons (d_callF ok__law_moving_dots o (G__law_moving_dots kin gn c) (a_cons (d_var (pv 1)) (a_nil))) (a_nil))))) (b_cons (s_set o.nd (d_callF ok__law_take o (G__law_take kin gn c) (a_cons (d_var (pv 0)) (a_cons (d_add o (d_len' o rfl (Z_len kin gn c) (d_var (pv 2))) (d_int)) (a_nil))))) (b_cons (s_set o.nd (d_slice o (d_var (pv 2)) (o_some (d_var (pv 3))) (o_none))) (b_cons (s_set o.nd (d_callF ok__law_pick o (G__law_pick kin gn c) (a_cons (d_var (pv 0)) (a_cons (d_lst (a_cons (d_len' o rfl (Z_len kin gn c) (d_var (pv 4))) (a_cons (d_callF ok__law_take o (G__law_take kin gn c) (a_cons (d_var (pv 0)) (a_cons (d_add o (d_len' o rfl (Z_len kin gn c) (d_var (pv 4))) (d_int)) (a_nil)))) (a_nil)))) (a_nil))))) (b_one (s_ret (d_tup (a_cons (d_tup1 o rfl (Z_tuple kin gn c) (d_sorted2 o rfl (Z_sorted kin gn c) (d_slice o (d_var (pv 2)) (o_none) (o_some (d_var (pv 3)))))) (a_cons (d_tup1 o rfl (Z_tuple kin gn c) (d_sorted2 o rfl (Z_sorted kin gn c) (d_slice o (d_var (pv 4)) (o_none) (o_some (d_var (pv 5)))))) (a_nil)))))))))
end
section
variable {K : PySem.W.Frag} {ad ga ca : Addr} {P : Program} {w : World} {mg : Str → Option Value} {base h : Heap} (kin : K.In h) (gn : h.Ns mainGlobals mg) (c : He.SaysD fa fn K) (sy : ∃ u, base.get? sysModules = some u) (isc : exB K = true) (gt : GetsD gts K)
include kin gn c sy isc gt
theorem ok_blend : Fu (gD K (clsOf K) ad ga ca) P w mg base 1 "_law_blend" "_law_blend" (top 39) ["draw"] (f_blend) (He.ga K "_law_blend") := by
  refine fu_of (g := gD K (clsOf K) ad ga ca) (N := ["draw", "turn", "found", "prime", "blend", "cell"]) sy (c.def_ 28 (d := ⟨("_law_blend", none), "_law_blend", "_law_blend", defArgs (top 39), defBody (top 39), defScope (top 39), [], []⟩) rfl) ⟨rfl, rfl, rfl, by decide +kernel, rfl, by decide +kernel, by decide +kernel⟩ (fun _ _ _ _ _ _ us hl => match us, hl with | [_], _ => rfl) fun cdv A outer s H o => ?_
  have o0 : XO (g0 K (clsOf K)) _ _ := ⟨o.K, o.rm, o.calm, o.nd, o.gd, o.sy⟩
  have c : He.SaysD fa fn (g0 K (clsOf K)).K := c
  have kin : (g0 K (clsOf K)).K.In h := kin
  exact b_cons (s_set o.nd (d_add o (r_get o (pv 0) (fun _ => rfl)) d_int)) (b_cons (r_put o (pv 0) (d_var (pv 1)) (fun _ _ => ⟨rfl, rfl, rfl⟩)) (b_frz (b_cons (s_set o0.nd (d_int)) (b_cons (s_for .never rfl (i_any o0 (d_lst (a_cons (d_int) (a_cons (d_int) (a_cons (d_int) (a_cons (d_int) (a_nil))))))) (g_name o0.nd) (b_cons (s_set o0.nd (d_mod (d_int1 rfl (Z_int kin gn c) (d_add o0 (d_mul (d_var (pv 1)) (d_int)) (d_div (d_var (pv 3)) (d_int)))) (d_var (pv 3)))) (b_cons (s_for .never rfl (i_any o0 (d_idx o0 (d_var (pv 0)) (d_str))) (g_name o0.nd) (b_one (s_set o0.nd (d_mod (d_int1 rfl (Z_int kin gn c) (d_add o0 (d_mul (d_var (pv 4)) (d_int)) (d_var (pv 5)))) (d_var (pv 3)))))) (b_one (s_set o0.nd (d_add o0 (d_mul (d_var (pv 2)) (d_int)) (d_mod (d_int1 rfl (Z_int kin gn c) (d_pow (d_var (pv 4)) (d_int))) (d_var (pv 3))))))))) (b_one (s_ret (d_var (pv 2))))))))
theorem ok_take : Fu (gD K (clsOf K) ad ga ca) P w mg base 2 "_law_take" "_law_take" (top 42) ["draw", "size"] (f_take (decide (ga = ca))) (He.ga K "_law_take") := by
  have ok_blend := ok_blend (P := P) (w := w) (base := base) (ad := ad) (ga := ga) (ca := ca) kin gn c sy isc gt
  refine fu_of (g := gD K (clsOf K) ad ga ca) (N := ["draw", "size", "found"]) sy (c.def_ 31 (d := ⟨("_law_take", none), "_law_take", "_law_take", defArgs (top 42), defBody (top 42), defScope (top 42), [], []⟩) rfl) ⟨rfl, rfl, rfl, by decide +kernel, rfl, by decide +kernel, by decide +kernel⟩ (fun _ _ _ _ _ _ us hl => match us, hl with | [_, _], _ => rfl) fun cdv A outer s H o => ?_
  exact b_cons (s_if (DW.t (w_and (t_eq o (r_get o (pv 0) (fun _ => rfl)) d_int) (w_one_and (r_great o (pv 0))))) (b_one (r_put o (pv 0) (r_pop o (pv 0)) (fun _ _ => ⟨rfl, rfl, rfl⟩))) b_nil) (b_cons (s_if (t_eq o (r_get o (pv 0) (fun _ => rfl)) d_int) (b_one (r_put o (pv 0) (d_callF ok_blend o (G__law_blend (g := gD K (clsOf K) ad ga ca) kin gn c) (a_cons (d_var (pv 0)) a_nil)) (fun _ _ => ⟨rfl, rfl, rfl⟩))) b_nil) (b_cons (s_set o.nd (d_mod (d_int1 rfl (Z_int (g := gD K (clsOf K) ad ga ca) kin gn c) (r_get o (pv 0) (fun _ => rfl))) (d_var (pv 1)))) (b_cons (r_put o (pv 0) (d_div (r_get o (pv 0) (fun _ => rfl)) (d_var (pv 1))) (fun _ _ => ⟨rfl, rfl, rfl⟩)) (b_one (s_ret (d_var (pv 2)))))))
theorem ok_law (h1 : ∀ ns : List Int, ns.length ≤ 63 → ∃ r, m_begin1 ⟨lawE 10 ns none, ()⟩ = some (.nx, ⟨lawE 10 ns (some ⟨drD r, true⟩), ()⟩))
    (h2 : ∀ (ns : List Int) (b : Bool) (r : Dr), ns.length ≤ 63 → ∃ s', m_law_k06 (f_take b) ⟨lawE 10 ns (some ⟨.res, false⟩), r⟩ = some (.rt (.sh (.bl true)), s')) {fd : FuncData} (F : FnP K "law" "law" (top 58) (He.ga K "law") fd) : FnG P w K mg base 9 (He.ga K "law") fd ["script"] (spLaw K 63) := by
  have ok__law_begin := ok__law_begin (g := g0 K (clsOf K)) (P := P) (w := w) (base := base) (T := fun _ _ => none) kin gn c rfl sy isc gt
  refine law_ok (cls := clsOf K) (xd := "draw") (m1 := m_begin1) (m2 := fun b => m_law_k06 (f_take b)) (N2 := ["turn", "model", "made", "lap", "ready", "part", "end", "some", "due", "got"]) sy F ⟨rfl, rfl, rfl, by decide +kernel, rfl, by decide +kernel, by decide +kernel⟩ rfl (fun cdv A outer s H o => ?_) (fun ad ga ca cdv A outer s H o => ?_) h1 h2
  · exact s_set o.nd (d_callF ok__law_begin o (G__law_begin (g := g0 K (clsOf K)) kin gn c) (a_cons (d_var (pv 0)) a_nil))
  · have ok__law_take := (ok_take (P := P) (w := w) (base := base) (ad := ad) (ga := ga) (ca := ca) kin gn c sy isc gt).mono (by decide : 2 ≤ 3)
    have hcl : (gD K (clsOf K) ad ga ca).cls = clsOf (gD K (clsOf K) ad ga ca).K := rfl
    have c : He.SaysD fa fn (gD K (clsOf K) ad ga ca).K := c
    have kin : (gD K (clsOf K) ad ga ca).K.In h := kin
    have ok__law_model := ok__law_model (g := gD K (clsOf K) ad ga ca) (P := P) (w := w) (base := base) kin gn c hcl sy isc gt ok__law_take
    have ok__law_net := ok__law_net (g := gD K (clsOf K) ad ga ca) (P := P) (w := w) (base := base) kin gn c hcl sy isc gt ok__law_take
    have ok__law_other_right := ok__law_other_right (g := gD K (clsOf K) ad ga ca) (P := P) (w := w) (base := base) kin gn c hcl sy isc gt ok__law_take
    have ok__law_rings := ok__law_rings (g := gD K (clsOf K) ad ga ca) (P := P) (w := w) (base := base) kin gn c hcl sy isc gt ok__law_take
    have ok__law_round := ok__law_round (g := gD K (clsOf K) ad ga ca) (P := P) (w := w) (base := base) kin gn c hcl sy isc gt ok__law_take
    have ok__law_web := ok__law_web (g := gD K (clsOf K) ad ga ca) (P := P) (w := w) (base := base) kin gn c hcl sy isc gt ok__law_take
    have ok_ring := ok_ring (g := gD K (clsOf K) ad ga ca) (P := P) (w := w) (base := base) kin gn c hcl sy isc gt ok__law_take
    exact b_cons (s_for .never rfl (i_range1 rfl (Z_range kin gn c) (d_add o (d_int) (d_min2 o rfl (Z_min kin gn c) (d_len' o rfl (Z_len kin gn c) (d_var (pv 0))) (d_int)))) (g_name o.nd) (b_cons (s_set o.nd (d_callF ok__law_model o (G__law_model kin gn c) (a_cons (d_var (pv 1)) (a_cons (d_int) (a_cons (d_int) (a_nil)))))) (b_cons (s_set o.nd (d_callF ok__law_net o (G__law_net kin gn c) (a_cons (d_var (pv 3)) (a_nil)))) (b_one (s_for .never rfl (i_range1 rfl (Z_range kin gn c) (d_int)) (g_name o.nd) (b_cons (s_unp (d_callF ok__law_round o (G__law_round kin gn c) (a_cons (d_var (pv 1)) (a_cons (d_var (pv 3)) (a_nil)))) (g_tup o (ts_cons (g_name o.nd) (ts_cons (g_name o.nd) (ts_nil))))) (b_cons (s_for .never rfl (i_any o (d_idx o (d_var (pv 3)) (d_str))) (g_name o.nd) (b_cons (s_set o.nd (d_callF ok__law_rings o (G__law_rings kin gn c) (a_cons (d_callF ok__law_web o (G__law_web kin gn c) (a_cons (d_var (pv 3)) (a_cons (d_var (pv 8)) (a_cons (d_var (pv 6)) (a_cons (d_var (pv 7)) (a_nil)))))) (a_nil)))) (b_cons (s_set o.nd (d_if (t_ne o (d_var (pv 9)) (d_lst (a_nil))) (d_idx o (d_var (pv 9)) (d_int)) (d_non))) (b_one (s_for .never rfl (i_any o (d_lst (a_cons (d_callF ok_ring o (G_ring kin gn c) (a_cons (d_var (pv 4)) (a_cons (d_var (pv 6)) (a_cons (d_var (pv 7)) (a_cons (d_var (pv 8)) (a_nil)))))) (a_cons (d_callK [3, 2, 1, 0] ["goal", "lot", "done", "net"] ok_ring o (G_ring kin gn c) (fun _ _ _ _ _ _ us hl => match us, hl with | [_, _, _, _], _ => rfl) (k_cons (d_var (pv 8)) (k_cons (d_var (pv 7)) (k_cons (d_var (pv 6)) (k_cons (d_var (pv 4)) (k_nil)))))) (a_nil))))) (g_name o.nd) (b_one (s_if (t_ne o (d_repr o rfl (Z_repr kin gn c) (d_var (pv 11))) (d_repr o rfl (Z_repr kin gn c) (d_var (pv 10)))) (b_one (s_ret (d_bl))) (b_nil)))))))) (b_one (s_if (t_not (t_val (d_callF ok__law_other_right o (G__law_other_right kin gn c) (a_cons (d_var (pv 1)) (a_cons (d_var (pv 3)) (a_cons (d_var (pv 4)) (a_cons (d_var (pv 6)) (a_cons (d_var (pv 7)) (a_nil))))))))) (b_one (s_ret (d_bl))) (b_nil)))))))))) (b_one (s_ret (d_bl)))
end
end RW
namespace RW
open PySem L2
@[simp] theorem gt_int (i j : Int) : gtD (.int i) (.int j) = some (.sh (.bl (decide (j < i)))) := rfl
/-! ### tools: loops by what holds between the turns -/
section
variable {R : Type}
/-- it gives something of which Q holds -/
def Ev {α β : Type} (x : Option (α × β)) (Q : α → β → Prop) : Prop := ∃ a b, x = some (a, b) ∧ Q a b
@[simp] theorem Ev_some {α β : Type} {a : α} {b : β} {Q : α → β → Prop} : Ev (some (a, b)) Q ↔ Q a b :=
  ⟨fun ⟨_, _, e, q⟩ => by cases e; exact q, fun q => ⟨a, b, rfl, q⟩⟩
@[simp] theorem Ev_none {α β : Type} {Q : α → β → Prop} : Ev (none : Option (α × β)) Q ↔ False := ⟨fun ⟨_, _, e, _⟩ => (by cases e), fun z => z.elim⟩
@[simp] theorem Ev_bind {α β γ δ : Type} {x : Option (α × β)} {f : α × β → Option (γ × δ)} {Q : γ → δ → Prop} : Ev (x.bind f) Q ↔ Ev x (fun a b => Ev (f (a, b)) Q) := by
  constructor
  · rintro ⟨c, d, e, q⟩
    obtain ⟨⟨a, b⟩, e1, e2⟩ := Option.bind_eq_some_iff.mp e
    exact ⟨a, b, e1, c, d, e2, q⟩
  · rintro ⟨a, b, e1, c, d, e2, q⟩
    exact ⟨c, d, by rw [e1]; exact e2, q⟩
@[simp] theorem Ev_map {α β γ δ : Type} {x : Option (α × β)} {f : α × β → γ × δ} {Q : γ → δ → Prop} : Ev (x.map f) Q ↔ Ev x (fun a b => Q (f (a, b)).1 (f (a, b)).2) := by
  constructor
  · rintro ⟨c, d, e, q⟩
    obtain ⟨⟨a, b⟩, e1, e2⟩ := Option.map_eq_some_iff.mp e
    exact ⟨a, b, e1, by show Q (f (a, b)).1 (f (a, b)).2; rw [e2]; exact q⟩
  · rintro ⟨a, b, e1, q⟩
    exact ⟨_, _, by rw [e1]; rfl, q⟩
theorem Ev.mono {α β : Type} {x : Option (α × β)} {Q Q' : α → β → Prop} (h : Ev x Q) (w : ∀ a b, Q a b → Q' a b) : Ev x Q' := by
  obtain ⟨a, b, e, q⟩ := h
  exact ⟨a, b, e, w a b q⟩
theorem for_ev {T : Tg} {mb : MS R} (I : List D → S R → Prop) (Q : Fl → S R → Prop)
    (h : ∀ d ds s, I (d :: ds) s → match bindT T d s.e with
      | some e' => Ev (mb { s with e := e' }) (fun fl s' => match fl with
        | .nx => I ds s'
        | .ct => I ds s'
        | .bk => Q .nx s'
        | .rt v => Q (.rt v) s')
      | none => False)
    (h0 : ∀ s, I [] s → Q .nx s) : ∀ (ds : List D) (s : S R), I ds s → Ev (forL T mb ds s) Q := by
  intro ds
  induction ds with
  | nil => exact fun s hs => ⟨.nx, s, rfl, h0 s hs⟩
  | cons d ds ih =>
    intro s hs
    have q := h d ds s hs
    split at q
    · rename_i e' e1
      obtain ⟨fl, s', e2, q⟩ := q
      cases fl with
      | nx =>
        obtain ⟨fl', s2, e3, q2⟩ := ih s' q
        exact ⟨fl', s2, by simp [forL, e1, e2, e3], q2⟩
      | ct =>
        obtain ⟨fl', s2, e3, q2⟩ := ih s' q
        exact ⟨fl', s2, by simp [forL, e1, e2, e3], q2⟩
      | bk => exact ⟨.nx, s', by simp [forL, e1, e2], q⟩
      | rt v => exact ⟨.rt v, s', by simp [forL, e1, e2], q⟩
    · exact q.elim
theorem mFor_ev {T : Tg} {mb : MS R} {mi : M R (List D)} {ds : List D} {s s1 : S R} {Q : Fl → S R → Prop} (hi : mi s = some (ds, s1)) (h : Ev (forL T mb ds s1) Q) : Ev (mFor mi T mb s) Q := by
  obtain ⟨a, b, e, q⟩ := h
  exact ⟨a, b, by simp [mFor, hi, e], q⟩
theorem wh_ev {mc : M R Vr} {mb : MS R} (I : Nat → S R → Prop) (Q : Fl → S R → Prop)
    (h : ∀ n s, I n s → Ev (mc s) (fun v s1 => match v with
      | .sh (.bl false) => Q .nx s1
      | .sh (.bl true) => Ev (mb s1) (fun fl s2 => match fl with
        | .nx => ∃ m, m < n ∧ I m s2
        | .ct => ∃ m, m < n ∧ I m s2
        | .bk => Q .nx s2
        | .rt v => Q (.rt v) s2)
      | _ => False)) : ∀ (fuel n : Nat) (s : S R), n < fuel → I n s → Ev (whL mc mb fuel s) Q := by
  intro fuel
  induction fuel with
  | zero => exact fun n s hn _ => absurd hn (Nat.not_lt_zero _)
  | succ k ih =>
    intro n s hn hs
    obtain ⟨v, s1, e1, q⟩ := h n s hs
    split at q
    · exact ⟨.nx, s1, by simp [whL, e1], q⟩
    · obtain ⟨fl, s2, e2, q⟩ := q
      cases fl with
      | nx =>
        obtain ⟨m, hm, q⟩ := q
        obtain ⟨fl', s3, e3, q2⟩ := ih m s2 (by omega) q
        exact ⟨fl', s3, by simp [whL, e1, e2, e3], q2⟩
      | ct =>
        obtain ⟨m, hm, q⟩ := q
        obtain ⟨fl', s3, e3, q2⟩ := ih m s2 (by omega) q
        exact ⟨fl', s3, by simp [whL, e1, e2, e3], q2⟩
      | bk => exact ⟨.nx, s2, by simp [whL, e1, e2], q⟩
      | rt v => exact ⟨.rt v, s2, by simp [whL, e1, e2], q⟩
    · exact q.elim
theorem lt_wfuel {n : Nat} (h : n < 1000) : n < wfuel := by unfold wfuel; omega
/-- a comprehension without draws -/
theorem lc_enc {α : Type} {vs : List Nat} {T : Tg} {mt me : M R Vr} (enc : α → D) (p : α → Bool) (f : α → D) {s : S R} : ∀ (xs : List α) (acc : List D), plainAt s.e vs = true →
    (∀ x ∈ xs, match bindT T (enc x) (wipeE s.e vs) with
      | some e' => backE s.e e' vs = s.e ∧ mt { s with e := e' } = some (.sh (.bl (p x)), { s with e := e' }) ∧ (p x = true → Ev (me { s with e := e' }) (fun v s2 => s2 = { s with e := e' } ∧ esc (soft v) { s with e := e' } = some (f x, { s with e := e' })))
      | none => False) →
    acc.length + xs.length ≤ sizeLine → lcL vs T mt me (xs.map enc) acc s = some (acc ++ (xs.filter p).map f, s)
  | [], acc, _, _, _ => by simp [lcL]
  | x :: xs, acc, hp, h, hl => by
    have ht := fun x hx => h x (List.mem_cons_of_mem _ hx)
    simp only [List.length_cons] at hl
    have q := h x List.mem_cons_self
    split at q
    · rename_i e' e1
      obtain ⟨e2, e3, e4⟩ := q
      cases hd : p x with
      | false =>
        rw [hd] at e3
        have := lc_enc enc p f xs acc hp ht (by omega)
        simp [lcL, hp, e1, e3, e2, this, hd]
      | true =>
        rw [hd] at e3
        obtain ⟨v, s2, e5, rfl, e6⟩ := e4 hd
        have := lc_enc enc p f xs (acc ++ [f x]) hp ht (by simp; omega)
        simp [lcL, hp, e1, e3, e5, e6, e2, this, hd]
        omega
    · exact q.elim
theorem mLc_enc {α : Type} {vs : List Nat} {mi : M R (List D)} {T : Tg} {mt me : M R Vr} (enc : α → D) (p : α → Bool) (f : α → D) (xs : List α) {s s1 : S R} (hi : mi s = some (xs.map enc, s1)) (hp : plainAt s1.e vs = true)
    (h : ∀ x ∈ xs, match bindT T (enc x) (wipeE s1.e vs) with
      | some e' => backE s1.e e' vs = s1.e ∧ mt { s1 with e := e' } = some (.sh (.bl (p x)), { s1 with e := e' }) ∧ (p x = true → Ev (me { s1 with e := e' }) (fun v s2 => s2 = { s1 with e := e' } ∧ esc (soft v) { s1 with e := e' } = some (f x, { s1 with e := e' })))
      | none => False) (hl : xs.length ≤ sizeLine) : mLc vs mi T mt me s = some (.tmp (.lst ((xs.filter p).map f)), s1) := by
  simp [mLc, hi, lc_enc enc p f xs [] hp h (by simpa using hl)]
/-- .. all of them -/
theorem mLc_all {α : Type} {vs : List Nat} {mi : M R (List D)} {T : Tg} {me : M R Vr} (enc : α → D) (f : α → D) (xs : List α) {s s1 : S R} (hi : mi s = some (xs.map enc, s1)) (hp : plainAt s1.e vs = true)
    (h : ∀ x ∈ xs, match bindT T (enc x) (wipeE s1.e vs) with
      | some e' => backE s1.e e' vs = s1.e ∧ Ev (me { s1 with e := e' }) (fun v s2 => s2 = { s1 with e := e' } ∧ esc (soft v) { s1 with e := e' } = some (f x, { s1 with e := e' }))
      | none => False) (hl : xs.length ≤ sizeLine) : mLc vs mi T (mC (.bl true)) me s = some (.tmp (.lst (xs.map f)), s1) := by
  have := mLc_enc (mt := mC (.bl true)) (me := me) (T := T) (vs := vs) enc (fun _ => true) f xs hi hp (fun x hx => by
    have q := h x hx
    split at q
    · exact ⟨q.1, rfl, fun _ => q.2⟩
    · exact q.elim) hl
  rw [this, List.filter_eq_self.mpr (fun _ _ => rfl)]
/-- a comprehension that may draw: what holds between the turns, over what is left and what is made -/
theorem lc_ev {vs : List Nat} {T : Tg} {mt me : M R Vr} (I : List D → List D → S R → Prop)
    (h : ∀ d ds acc s, I (d :: ds) acc s → plainAt s.e vs = true ∧ match bindT T d (wipeE s.e vs) with
      | some e' => Ev (mt { s with e := e' }) (fun v s1 => match v with
        | .sh (.bl false) => I ds acc { s1 with e := backE s.e s1.e vs }
        | .sh (.bl true) => Ev (me s1) (fun v s2 => Ev (esc (soft v) s2) (fun z s3 => acc.length < sizeLine ∧ I ds (acc ++ [z]) { s3 with e := backE s.e s3.e vs }))
        | _ => False)
      | none => False) :
    ∀ (ds acc : List D) (s : S R), I ds acc s → Ev (lcL vs T mt me ds acc s) (fun zs s' => I [] zs s')
  | [], acc, s, hs => ⟨acc, s, rfl, hs⟩
  | d :: ds, acc, s, hs => by
    obtain ⟨hp, q⟩ := h d ds acc s hs
    split at q
    · rename_i e' e1
      obtain ⟨v, s1, e2, q⟩ := q
      split at q
      · obtain ⟨zs, s', e5, q⟩ := lc_ev I h ds acc _ q
        exact ⟨zs, s', by simp [lcL, hp, e1, e2, e5], q⟩
      · obtain ⟨v, s2, e3, z, s3, e4, hl, q⟩ := q
        obtain ⟨zs, s', e5, q⟩ := lc_ev I h ds (acc ++ [z]) _ q
        exact ⟨zs, s', by simp [lcL, hp, e1, e2, e3, e4, hl, e5], q⟩
      · exact q.elim
    · exact q.elim
/-- a dict by a comprehension, without draws; new keys that are texts -/
theorem dc_enc {α : Type} {vs : List Nat} {T : Tg} {mk mv : M R Vr} (enc : α → D) (k : α → Str) (f : α → D) {s : S R} : ∀ (xs : List α) (acc : List (D × D)), plainAt s.e vs = true →
    (∀ x ∈ xs, match bindT T (enc x) (wipeE s.e vs) with
      | some e' => backE s.e e' vs = s.e ∧ Ev (mk { s with e := e' }) (fun v s2 => s2 = { s with e := e' } ∧ esc (soft v) { s with e := e' } = some (.str (k x), { s with e := e' })) ∧
        Ev (mv { s with e := e' }) (fun v s2 => s2 = { s with e := e' } ∧ esc (soft v) { s with e := e' } = some (f x, { s with e := e' }))
      | none => False) →
    acc.length + xs.length ≤ sizeLine → (∀ x ∈ xs, ∀ p ∈ acc, keq p.1 (.str (k x)) = false) → (xs.map k).Nodup → dcL vs T (mC (.bl true)) mk mv (xs.map enc) acc s = some (acc ++ xs.map fun x => (.str (k x), f x), s)
  | [], acc, _, _, _, _, _ => by simp [dcL]
  | x :: xs, acc, hp, h, hl, hk, hn => by
    have ht := fun d hd => h d (List.mem_cons_of_mem _ hd)
    simp only [List.length_cons] at hl
    rw [List.map_cons, List.nodup_cons] at hn
    have q := h x List.mem_cons_self
    split at q
    · rename_i e' e1
      obtain ⟨e2, ⟨v, s2, e3, rfl, e4⟩, w, s3, e5, rfl, e6⟩ := q
      have hput : putE acc (.str (k x)) (f x) = acc ++ [(.str (k x), f x)] := by
        unfold putE
        rw [if_neg]
        intro z
        obtain ⟨p, hp, z⟩ := List.any_eq_true.mp z
        rw [hk x List.mem_cons_self p hp] at z; cases z
      have := dc_enc enc k f xs (acc ++ [(.str (k x), f x)]) hp ht (by simp; omega) (fun d' hd' p hp' => by
        rcases List.mem_append.mp hp' with z | z
        · exact hk d' (List.mem_cons_of_mem _ hd') p z
        · have : p = (.str (k x), f x) := by simpa using z
          subst this
          have ne : k x ≠ k d' := fun z => hn.1 (by rw [z]; exact List.mem_map_of_mem hd')
          simpa [keq] using ne) hn.2
      simp [dcL, hp, e1, mC, e3, e4, kOf, keyD, e5, e6, e2, hput, this]
      omega
    · exact q.elim
theorem mDc_enc {α : Type} {vs : List Nat} {mi : M R (List D)} {T : Tg} {mk mv : M R Vr} (enc : α → D) (k : α → Str) (f : α → D) (xs : List α) {s s1 : S R} (hi : mi s = some (xs.map enc, s1)) (hp : plainAt s1.e vs = true)
    (h : ∀ x ∈ xs, match bindT T (enc x) (wipeE s1.e vs) with
      | some e' => backE s1.e e' vs = s1.e ∧ Ev (mk { s1 with e := e' }) (fun v s2 => s2 = { s1 with e := e' } ∧ esc (soft v) { s1 with e := e' } = some (.str (k x), { s1 with e := e' })) ∧
        Ev (mv { s1 with e := e' }) (fun v s2 => s2 = { s1 with e := e' } ∧ esc (soft v) { s1 with e := e' } = some (f x, { s1 with e := e' }))
      | none => False) (hl : xs.length ≤ sizeLine) (hn : (xs.map k).Nodup) : mDc vs mi T (mC (.bl true)) mk mv s = some (.tmp (.dct false (xs.map fun x => (.str (k x), f x))), s1) := by
  simp [mDc, hi, dc_enc enc k f xs [] hp h (by simpa using hl) (fun _ _ _ z => nomatch z) hn]
end
end RW
namespace RW
open PySem L2
/-! ### data -/
def dS (xs : List Str) : List D := xs.map D.str
theorem dS_length (xs : List Str) : (dS xs).length = xs.length := List.length_map ..
theorem str_beq (x y : Str) : (x == y) = decide (x = y) := by
  by_cases h : x = y
  · subst h; simp
  · rw [decide_eq_false h]; exact beq_eq_false_iff_ne.mpr h
theorem atI_nat' {α : Type} {xs : List α} {k : Nat} (h : k < xs.length) : atI xs (k : Int) = some xs[k] := by
  unfold atI ixN
  rw [if_pos (by omega), if_pos (by omega)]
  simp [h]
theorem seqIx_nat {n k : Nat} (h : k < n) : seqIndex? (k : Int) n = some k := by
  unfold seqIndex?
  simp
  omega
theorem pop_nat {xs : List D} {k : Nat} (h : k < xs.length) (h2 : xs.length < 1000000) : popAtL (.lst xs) [.int k] = some (xs[k], .lst (xs.eraseIdx k)) := by
  have h1 : xs.length ≤ sizeLine := by unfold sizeLine; omega
  simp only [popAtL, h1, seqIx_nat h]
  simp [h]
theorem perm_erase {α : Type} : ∀ (xs : List α) (k : Nat) (h : k < xs.length), (xs[k] :: xs.eraseIdx k).Perm xs
  | x :: xs, 0, _ => by simp
  | x :: xs, k + 1, h => by
    simp only [List.length_cons] at h
    have := perm_erase xs k (by omega)
    simp only [List.getElem_cons_succ, List.eraseIdx_cons_succ]
    exact (List.Perm.swap _ _ _).trans (this.cons _)
theorem deq_lst_nil (xs : List D) : deqF 60 (.lst xs) (.lst []) = some (decide (xs = [])) := by
  cases xs with
  | nil => rfl
  | cons n ns => simp [deqF, toV]
theorem ne_lst_nil (xs : List D) : neD (.lst xs) (.lst []) = some (.sh (.bl (!decide (xs = [])))) := by simp [neD, deq_lst_nil]
theorem deq_str (x y : Str) : deqF 60 (.str x) (.str y) = some (decide (x = y)) := by
  simp [deqF, toV, eqV, str_beq]
theorem ne_str (x y : Str) : neD (.str x) (.str y) = some (.sh (.bl (!decide (x = y)))) := by
  simp [neD, deq_str]
theorem eq_str (x y : Str) : eqD (.str x) (.str y) = some (.sh (.bl (decide (x = y)))) := by
  simp [eqD, deq_str]
theorem deq_int (x y : Int) : deqF 60 (.int x) (.int y) = some (decide (x = y)) := by
  simp only [deqF, toV, eqV]
  by_cases h : x = y
  · simp [h]
  · simp [h]
theorem eq_int' (x y : Int) : eqD (.int x) (.int y) = some (.sh (.bl (decide (x = y)))) := by simp [eqD, deq_int]
theorem ne_int' (x y : Int) : neD (.int x) (.int y) = some (.sh (.bl (!decide (x = y)))) := by simp [neD, deq_int]
/-- a place: a name or None -/
def dO : Option Str → D
  | some x => .str x
  | none => .non
theorem deq_dO (x y : Option Str) : deqF 60 (dO x) (dO y) = some (decide (x = y)) := by
  cases x <;> cases y <;> simp [deqF, dO, toV, eqV, str_beq]
theorem ne_dO (x y : Option Str) : neD (dO x) (dO y) = some (.sh (.bl (!decide (x = y)))) := by simp [neD, deq_dO]
theorem eq_dO (x y : Option Str) : eqD (dO x) (dO y) = some (.sh (.bl (decide (x = y)))) := by simp [eqD, deq_dO]
theorem strsOf_dS : ∀ xs : List Str, strsOf (dS xs) = some xs
  | [] => rfl
  | x :: xs => by
    show (strsOf (dS xs)).map (fun xs => x :: xs) = _
    rw [strsOf_dS xs]; rfl
theorem toVs_dS : ∀ xs : List Str, toVs (dS xs) = some (xs.map V.str)
  | [] => rfl
  | x :: xs => by
    show (toV (.str x)).bind (fun v => (toVs (dS xs)).map fun vs => v :: vs) = _
    rw [toVs_dS xs]; rfl
theorem inV_dS (x : Str) (xs : List Str) : inV (.str x) (xs.map V.str) = decide (x ∈ xs) := by
  unfold inV
  induction xs with
  | nil => rfl
  | cons y ys ih =>
    rw [List.map_cons, List.any_cons, ih]
    by_cases h : x = y
    · subst h; simp [eqV]
    · simp [eqV, h, beq_eq_false_iff_ne.mpr (Ne.symm h)]
theorem in_lst (x : Str) (xs : List Str) : inB (.str x) (.lst (dS xs)) = some (decide (x ∈ xs)) := by
  simp [inB, toV, toVs_dS, inV_dS]
theorem in_tup (x : Str) (xs : List Str) : inB (.str x) (.tup (dS xs)) = some (decide (x ∈ xs)) := by
  simp [inB, toV, toVs_dS, inV_dS]
theorem boolsOf_map : ∀ bs : List Bool, boolsOf (bs.map D.bl) = some bs
  | [] => rfl
  | b :: bs => by
    show (boolsOf (bs.map D.bl)).map (fun bs => b :: bs) = _
    rw [boolsOf_map bs]; rfl
theorem all_bl (bs : List Bool) : allD (.lst (bs.map D.bl)) = some (.sh (.bl (bs.all id))) := by simp [allD, boolsOf_map]
theorem any_bl (bs : List Bool) : anyD (.lst (bs.map D.bl)) = some (.sh (.bl (bs.any id))) := by simp [anyD, boolsOf_map]
/-- a dict with texts as keys -/
def dT {α : Type} (f : α → D) (t : List (Str × α)) : D := .dct false (t.map fun p => (.str p.1, f p.2))
theorem get_dT {α : Type} (f : α → D) (k : Str) : ∀ t : List (Str × α), getE (t.map fun p => (D.str p.1, f p.2)) (.str k) = (t.lookup k).map f
  | [] => rfl
  | (x, y) :: t => by
    unfold getE
    rw [List.map_cons, List.find?_cons, List.lookup_cons]
    show (match decide (x = k) with | true => some _ | false => _).map _ = _
    by_cases h : x = k
    · subst h; simp
    · rw [decide_eq_false h, beq_eq_false_iff_ne.mpr (Ne.symm h)]
      exact get_dT f k t
theorem look_some {α : Type} {k : Str} : ∀ {t : List (Str × α)}, k ∈ t.map (·.1) ↔ (t.lookup k).isSome = true
  | [] => by simp
  | (x, y) :: t => by
    rw [List.map_cons, List.mem_cons, List.lookup_cons]
    by_cases h : k = x
    · subst h; simp
    · rw [beq_eq_false_iff_ne.mpr h]
      simp only [h, false_or]
      exact look_some
theorem in_dT {α : Type} (f : α → D) (k : Str) (t : List (Str × α)) : inB (.str k) (dT f t) = some (decide (k ∈ t.map (·.1))) := by
  unfold dT
  simp only [inB, get_dT, Option.isSome_map]
  by_cases h : k ∈ t.map (·.1)
  · rw [look_some.mp h, decide_eq_true h]
  · rw [decide_eq_false h]
    cases q : (t.lookup k).isSome with
    | false => rfl
    | true => exact absurd (look_some.mpr q) h
theorem in_dTO {α : Type} (f : α → D) (k : Option Str) (t : List (Str × α)) : inB (dO k) (dT f t) = some (match k with | some k => decide (k ∈ t.map (·.1)) | none => false) := by
  cases k with
  | none => rfl
  | some k => exact in_dT f k t
theorem idx_dT {α : Type} (f : α → D) {k : Str} {t : List (Str × α)} {y : α} (h : t.lookup k = some y) : idxD (dT f t) (.str k) = some (.sh (f y)) := by
  unfold dT idxD
  simp [idxK, kOf, keyD, get_dT, h]
theorem len_dT {α : Type} (f : α → D) (t : List (Str × α)) : lenD (dT f t) = some (.sh (.int t.length)) := by simp [dT, lenD]
theorem keysStr_dT {α : Type} (f : α → D) : ∀ t : List (Str × α), keysStr (t.map fun p => (D.str p.1, f p.2)) = some (t.map (·.1))
  | [] => rfl
  | (x, y) :: t => by
    show (keysStr (t.map fun p => (D.str p.1, f p.2))).map (fun xs => x :: xs) = _
    rw [keysStr_dT f t]; rfl
theorem items_dT {α : Type} (f : α → D) (t : List (Str × α)) : itemsOf (dT f t) = some (dS (t.map (·.1))) := by
  simp [dT, itemsOf, dS]
/-- an entry put -/
def putT {α : Type} (t : List (Str × α)) (k : Str) (y : α) : List (Str × α) := if k ∈ t.map (·.1) then t.map (fun p => if p.1 = k then (p.1, y) else p) else t ++ [(k, y)]
theorem put_dT {α : Type} (f : α → D) (t : List (Str × α)) (k : Str) (y : α) : putE (t.map fun p => (D.str p.1, f p.2)) (.str k) (f y) = (putT t k y).map fun p => (D.str p.1, f p.2) := by
  unfold putE putT
  have e : ((t.map fun p => (D.str p.1, f p.2)).any fun p => keq p.1 (.str k)) = decide (k ∈ t.map (·.1)) := by
    induction t with
    | nil => rfl
    | cons p t ih =>
      rw [List.map_cons, List.any_cons, ih, List.map_cons]
      show (decide (p.1 = k) || _) = _
      by_cases h : p.1 = k
      · simp [h]
      · simp [h, Ne.symm h]
  rw [e]
  by_cases h : k ∈ t.map (·.1)
  · rw [if_pos (decide_eq_true h), if_pos h, List.map_map, List.map_map]
    apply List.map_congr_left
    intro p hp
    show (if decide (p.1 = k) = true then _ else _) = _
    by_cases hk : p.1 = k
    · simp [hk]
    · simp [hk]
  · rw [if_neg (by simpa using h), if_neg h, List.map_append]; rfl
theorem putD_dT {α : Type} (f : α → D) (t : List (Str × α)) (k : Str) (y : α) (h : t.length < sizeLine) : putD (dT f t) (.str k) (f y) = some (dT f (putT t k y)) := by
  unfold dT
  simp [putD, kOf, h, keyD, put_dT]
theorem putT_new {α : Type} {t : List (Str × α)} {k : Str} {y : α} (h : k ∉ t.map (·.1)) : putT t k y = t ++ [(k, y)] := if_neg h
theorem putT_keys {α : Type} {t : List (Str × α)} {k : Str} {y : α} (h : k ∈ t.map (·.1)) : (putT t k y).map (·.1) = t.map (·.1) := by
  unfold putT
  rw [if_pos h, List.map_map]
  apply List.map_congr_left
  intro p hp
  show (if p.1 = k then (p.1, y) else p).1 = p.1
  split <;> rfl
/-- what draws tell -/
def Draws {R : Type} (T : Fm R) : Prop := ∀ (r : R) (n : Int), 0 < n → n < 1073741824 → ∃ (k : Nat) (r' : R), (k : Int) < n ∧ T [.res, .int n] r = some (.sh (.int k), r')
section
variable {R : Type} {T : Fm R}
theorem pick_ok (hT : Draws T) (xs : List D) (h : 0 < xs.length) (h2 : xs.length < 1073741824) (r : R) : ∃ d r', d ∈ xs ∧ f__law_pick T [.res, .lst xs] r = some (.sh d, r') := by
  obtain ⟨k, r', hk, e⟩ := hT r xs.length (by omega) (by omega)
  have hk : k < xs.length := by omega
  refine ⟨xs[k], r', List.getElem_mem _, ?_⟩
  simp [f__law_pick, m__law_pick, fnM, fnR, ent, mSeq, mSet, mV, mC, mOp1, mOp2, mChain, mAnd, mOr, mNot, mIf, mArgs, escAll, esc, soft, pk, hard, put, puts, mHards, mPar, mTup, mLst, mDct0, mCall, mRest, mRt, mRtN, mNx, mEx, mIte, mMut, mPut, mIt, bindT, bindTs, isAtom, isLst, isDK, plainAt, wipeE, backE, mFor, mLc, mDc, mWhile, mBk, mCt, mNo, mSl, mNoP, mPt, mJoin, mRng1, mRng2, mZip, mCallK, pickL, mMeth, mProp, mMake, mFld, fnI, fnIR, mDisp, mPairs, o2I, gtI, geI, leI, mStar, mStarT, mStarL, mAugI, mIndex, lenD, idxD, idxS, e, atI_nat' hk]
theorem mixed_ok (hT : Draws T) (xs : List D) (h2 : xs.length < 900) (r : R) : ∃ ys r', ys.Perm xs ∧ f__law_mixed T [.res, .lst xs] r = some (.tmp (.lst ys), r') := by
  suffices h : Ev (f__law_mixed T [.res, .lst xs] r) (fun v r' => ∃ ys, ys.Perm xs ∧ v = .tmp (.lst ys)) by
    obtain ⟨v, r', e, ys, hp, rfl⟩ := h
    exact ⟨ys, r', hp, e⟩
  let I : Nat → S R → Prop := fun n s => ∃ left found r', s = ⟨[some ⟨.res, false⟩, some ⟨.lst xs, false⟩, some ⟨.lst left, true⟩, some ⟨.lst found, true⟩], r'⟩ ∧ left.length = n ∧ (found ++ left).Perm xs
  unfold f__law_mixed m__law_mixed
  generalize hW : mWhile _ _ = W
  simp [fnM, fnR, ent, mSeq, mSet, mV, mC, mOp1, mOp2, mChain, mAnd, mOr, mNot, mIf, mArgs, escAll, esc, soft, pk, hard, put, puts, mHards, mPar, mTup, mLst, mDct0, mCall, mRest, mRt, mRtN, mNx, mEx, mIte, mMut, mPut, mIt, bindT, bindTs, isAtom, isLst, isDK, plainAt, wipeE, backE, mFor, mLc, mDc, mWhile, mBk, mCt, mNo, mSl, mNoP, mPt, mJoin, mRng1, mRng2, mZip, mCallK, pickL, mMeth, mProp, mMake, mFld, fnI, fnIR, mDisp, mPairs, o2I, gtI, geI, leI, mStar, mStarT, mStarL, mAugI, mIndex, listD]
  subst hW
  unfold mWhile
  refine (wh_ev I (fun fl s => fl = .nx ∧ I 0 s) (fun n s hs => ?_) wfuel xs.length _ (lt_wfuel (by omega)) ⟨xs, [], r, rfl, rfl, by simp⟩).mono ?_
  · obtain ⟨left, found, r', rfl, hn, hp⟩ := hs
    by_cases hl : left = []
    · subst hl
      simp [fnM, fnR, ent, mSeq, mSet, mV, mC, mOp1, mOp2, mChain, mAnd, mOr, mNot, mIf, mArgs, escAll, esc, soft, pk, hard, put, puts, mHards, mPar, mTup, mLst, mDct0, mCall, mRest, mRt, mRtN, mNx, mEx, mIte, mMut, mPut, mIt, bindT, bindTs, isAtom, isLst, isDK, plainAt, wipeE, backE, mFor, mLc, mDc, mWhile, mBk, mCt, mNo, mSl, mNoP, mPt, mJoin, mRng1, mRng2, mZip, mCallK, pickL, mMeth, mProp, mMake, mFld, fnI, fnIR, mDisp, mPairs, o2I, gtI, geI, leI, mStar, mStarT, mStarL, mAugI, mIndex, ne_lst_nil]
      exact ⟨[], found, r', rfl, rfl, by simpa using hp⟩
    · have hpos : 0 < left.length := List.length_pos_iff.mpr hl
      have hle := hp.length_eq
      simp only [List.length_append] at hle
      obtain ⟨k, r2, hk, e⟩ := hT r' left.length (by omega) (by omega)
      have hk : k < left.length := by omega
      have hsz : found.length < sizeLine := by unfold sizeLine; omega
      simp [fnM, fnR, ent, mSeq, mSet, mV, mC, mOp1, mOp2, mChain, mAnd, mOr, mNot, mIf, mArgs, escAll, esc, soft, pk, hard, put, puts, mHards, mPar, mTup, mLst, mDct0, mCall, mRest, mRt, mRtN, mNx, mEx, mIte, mMut, mPut, mIt, bindT, bindTs, isAtom, isLst, isDK, plainAt, wipeE, backE, mFor, mLc, mDc, mWhile, mBk, mCt, mNo, mSl, mNoP, mPt, mJoin, mRng1, mRng2, mZip, mCallK, pickL, mMeth, mProp, mMake, mFld, fnI, fnIR, mDisp, mPairs, o2I, gtI, geI, leI, mStar, mStarT, mStarL, mAugI, mIndex, ne_lst_nil, hl, lenD, e, pop_nat hk (by omega), appL, hsz]
      refine ⟨left.length - 1, by omega, left.eraseIdx k, found ++ [left[k]], r2, rfl, by simp [List.length_eraseIdx, hk], ?_⟩
      refine List.Perm.trans ?_ hp
      rw [List.append_assoc]
      exact List.Perm.append_left _ (perm_erase left k hk)
  · rintro fl s ⟨rfl, left, found, r', rfl, hn, hp⟩
    obtain rfl : left = [] := List.length_eq_zero_iff.mp hn
    simp
    simpa using hp
end
end RW
namespace RW
open PySem L2
/-! ### names -/
def lets : List Nat := [97, 98, 99, 100, 101, 102, 103, 104, 105, 106, 107, 108, 109, 110, 111, 112, 113, 114, 115, 116, 117, 118, 119, 120, 121, 122]
theorem lets_eq : ("abcdefghijklmnopqrstuvwxyz" : Str).cps.toList = lets := by decide
theorem lets_mem {c : Nat} : c ∈ lets ↔ 97 ≤ c ∧ c ≤ 122 := by
  unfold lets
  simp only [List.mem_cons, List.not_mem_nil, or_false]
  omega
def isName (x : Str) : Prop := 1 ≤ x.cps.size ∧ x.cps.size ≤ 6 ∧ ∀ c ∈ x.cps.toList, c ∈ lets
def ch (c : Nat) : Str := ⟨#[c]⟩
theorem app_cps (x y : Str) : (x ++ y).cps.toList = x.cps.toList ++ y.cps.toList := Array.toList_append
theorem size_eq (x : Str) : x.cps.size = x.cps.toList.length := Array.length_toList.symm
def cut5 (w : Str) : Str := cutS w none (some 5)
theorem cut5_cps (w : Str) : (cut5 w).cps.toList = w.cps.toList.take 5 := by
  have e : HT.sIx w.length w.length (some 5) = min 5 w.length := by
    have := HT.sIx_nat w.length w.length 5
    simpa using this
  unfold cut5 cutS
  rw [e]
  show List.take (min 5 w.length - 0) (List.drop 0 w.cps.toList) = _
  rw [List.drop_zero, Nat.sub_zero]
  show List.take (min 5 w.cps.size) w.cps.toList = _
  rw [size_eq, ← List.take_take, List.take_length]
def nearL (w : Str) : List Str := w :: lets.map fun c => cut5 w ++ ch c
theorem isName_near {w : Str} (h : isName w) : ∀ x ∈ nearL w, isName x := by
  intro x hx
  rcases List.mem_cons.mp hx with rfl | hx
  · exact h
  · obtain ⟨c, hc, rfl⟩ := List.mem_map.mp hx
    have e : (cut5 w ++ ch c).cps.toList = w.cps.toList.take 5 ++ [c] := by rw [app_cps, cut5_cps]; rfl
    refine ⟨?_, ?_, ?_⟩
    · rw [size_eq, e]; simp
    · rw [size_eq, e, List.length_append, List.length_take]; simp; omega
    · rw [e]
      intro d hd
      rcases List.mem_append.mp hd with hd | hd
      · exact h.2.2 d (List.mem_of_mem_take hd)
      · have : d = c := by simpa using hd
        rw [this]; exact hc
theorem sub_len {α : Type} [DecidableEq α] : ∀ {xs ys : List α}, xs.Nodup → (∀ x ∈ xs, x ∈ ys) → xs.length ≤ ys.length
  | [], ys, _, _ => Nat.zero_le _
  | x :: xs, ys, hn, hs => by
    rw [List.nodup_cons] at hn
    have hx := hs x List.mem_cons_self
    have := sub_len (xs := xs) (ys := ys.erase x) hn.2 (fun z hz => by
      have hne : z ≠ x := fun e => hn.1 (e ▸ hz)
      exact (List.mem_erase_of_ne hne).mpr (hs z (List.mem_cons_of_mem _ hz)))
    rw [List.length_erase_of_mem hx] at this
    have : 0 < ys.length := List.length_pos_of_mem hx
    simp only [List.length_cons]
    omega
theorem near_left (w : Str) (found : List Str) (h : found.length < 26) : 0 < ((nearL w).filter fun x => !decide (x ∈ found)).length := by
  refine Nat.pos_of_ne_zero fun z => ?_
  have z := List.filter_eq_nil_iff.mp (List.length_eq_zero_iff.mp z)
  have nd : (lets.map fun c => cut5 w ++ ch c).Nodup := by
    refine (List.pairwise_map).mpr ?_
    have hl : lets.Nodup := by decide
    refine List.Pairwise.imp (fun {a b} hne e => ?_) hl
    have e := congrArg (fun x : Str => x.cps.toList) e
    simp only [app_cps] at e
    have e := List.append_cancel_left e
    have : [a] = [b] := e
    simp at this
    exact hne this
  have := sub_len nd (ys := found) (fun x hx => by
    have := z x (List.mem_cons_of_mem _ hx)
    simpa using this)
  rw [List.length_map] at this
  have e : lets.length = 26 := rfl
  omega
section
variable {R : Type} {T : Fm R}
theorem pick_let (hT : Draws T) (r : R) : ∃ c r', c ∈ lets ∧ f__law_pick T [.res, .str "abcdefghijklmnopqrstuvwxyz"] r = some (.sh (.str (ch c)), r') := by
  have hl : ("abcdefghijklmnopqrstuvwxyz" : Str).length = 26 := by decide
  obtain ⟨k, r', hk, e⟩ := hT r 26 (by omega) (by omega)
  have hk : k < lets.length := by show k < 26; omega
  refine ⟨lets[k], r', List.getElem_mem _, ?_⟩
  have hz : (26 : Nat) ≤ sizeLine := by decide
  simp [f__law_pick, m__law_pick, fnM, fnR, ent, mSeq, mSet, mV, mC, mOp1, mOp2, mChain, mAnd, mOr, mNot, mIf, mArgs, escAll, esc, soft, pk, hard, put, puts, mHards, mPar, mTup, mLst, mDct0, mCall, mRest, mRt, mRtN, mNx, mEx, mIte, mMut, mPut, mIt, bindT, bindTs, isAtom, isLst, isDK, plainAt, wipeE, backE, mFor, mLc, mDc, mWhile, mBk, mCt, mNo, mSl, mNoP, mPt, mJoin, mRng1, mRng2, mZip, mCallK, pickL, mMeth, mProp, mMake, mFld, fnI, fnIR, mDisp, mPairs, o2I, gtI, geI, leI, mStar, mStarT, mStarL, mAugI, mIndex, lenD, idxD, idxS, hl, hz, e, lets_eq, atI_nat' hk, ch]
theorem range_len (n : Nat) (lo : Int) : (rangeOf n lo).length = n := by simp [rangeOf]
theorem rng1 {ma : M R Vr} {s s' : S R} {n : Nat} {i : Int} (h : ma s = some (.sh (.int i), s')) (hi : i = n) (hn : n ≤ 16777216) : mRng1 ma s = some (rangeOf n 0, s') := by
  subst hi
  simp [mRng1, h, hn]
def names0 : List Str := ["a", "b", "goal", "home", "lost", "rings", "posts", "done", "way", "zzzzzz"]
instance (x : Str) : Decidable (isName x) := by unfold isName; exact inferInstance
theorem names0_ok : ∀ x ∈ names0, isName x := by decide
theorem join_cps : ∀ (cs : List Nat), (Txt.join "" (cs.map ch)).cps.toList = cs := by
  intro cs
  have e : (Txt.join "" (cs.map ch)).cps.toList = TL.joinL [] ((cs.map ch).map TL.tl) := by
    have e := TL.tl_join ("" : Str) (cs.map ch)
    rw [← TL.join_eq] at e
    exact e
  rw [e, List.map_map]
  clear e
  induction cs with
  | nil => rfl
  | cons c cs ih =>
    cases cs with
    | nil => rfl
    | cons d cs => exact congrArg (fun z => c :: z) ih
theorem words_ok (hT : Draws T) (n : Nat) (hn : n ≤ 12) (r : R) : ∃ ys r', ys.length = n ∧ ys.Nodup ∧ (∀ y ∈ ys, isName y) ∧ f__law_words T [.res, .int n] r = some (.tmp (.lst (dS ys)), r') := by
  suffices h : Ev (f__law_words T [.res, .int n] r) (fun v r' => ∃ ys, ys.length = n ∧ ys.Nodup ∧ (∀ y ∈ ys, isName y) ∧ v = .tmp (.lst (dS ys))) by
    obtain ⟨v, r', e, ys, h1, h2, h3, rfl⟩ := h
    exact ⟨ys, r', h1, h2, h3, e⟩
  let I : List D → S R → Prop := fun ds s => ∃ (found : List Str) (a5 a6 a7 a8 : Option Cell) (r' : R), s = ⟨[some ⟨.res, false⟩, some ⟨.int n, false⟩, some ⟨.str "abcdefghijklmnopqrstuvwxyz", false⟩, some ⟨.lst (dS found), true⟩, some ⟨.lst (dS names0), true⟩, a5, a6, a7, a8, none, none, none], r'⟩ ∧ found.length + ds.length = n ∧ found.Nodup ∧ ∀ y ∈ found, isName y
  unfold f__law_words m__law_words
  generalize hF : mFor _ _ _ = F1
  simp [fnM, fnR, ent, mSeq, mSet, mV, mC, mOp1, mOp2, mChain, mAnd, mOr, mNot, mIf, mArgs, escAll, esc, soft, pk, hard, put, puts, mHards, mPar, mTup, mLst, mDct0, mCall, mRest, mRt, mRtN, mNx, mEx, mIte, mMut, mPut, mIt, bindT, bindTs, isAtom, isLst, isDK, plainAt, wipeE, backE, mFor, mLc, mDc, mWhile, mBk, mCt, mNo, mSl, mNoP, mPt, mJoin, mRng1, mRng2, mZip, mCallK, pickL, mMeth, mProp, mMake, mFld, fnI, fnIR, mDisp, mPairs, o2I, gtI, geI, leI, mStar, mStarT, mStarL, mAugI, mIndex]
  subst hF
  have hn' : n ≤ 16777216 := by omega
  refine mFor_ev (ds := rangeOf n 0) (by simp [mRng1, mV, hn']; rfl) ?_
  refine (for_ev I (fun fl s => fl = .nx ∧ I [] s) (fun d ds s hs => ?_) (fun s hs => ⟨rfl, hs⟩) (rangeOf n 0) _ ⟨[], none, none, none, none, r, rfl, by simp [range_len], by simp, by simp⟩).mono ?_
  · obtain ⟨found, a5, a6, a7, a8, r', rfl, h1, h2, h3⟩ := hs
    simp only [List.length_cons] at h1
    obtain ⟨d1, r1, hd1, e1⟩ := pick_ok hT (dS names0) (by decide) (by decide) r'
    obtain ⟨w1, hw1, rfl⟩ : ∃ w1, isName w1 ∧ d1 = .str w1 := by
      obtain ⟨x, hx, rfl⟩ := List.mem_map.mp hd1
      exact ⟨x, names0_ok x hx, rfl⟩
    obtain ⟨k2, r2, hk2, e2⟩ := hT r1 3 (by omega) (by omega)
    generalize hB : mSeq (mSet 8 _) _ = TAIL
    have tail : ∀ (w : Str) (a7 : Option Cell) (r3 : R), isName w → Ev (TAIL ⟨[some ⟨.res, false⟩, some ⟨.int n, false⟩, some ⟨.str "abcdefghijklmnopqrstuvwxyz", false⟩, some ⟨.lst (dS found), true⟩, some ⟨.lst (dS names0), true⟩, some ⟨d, false⟩, some ⟨.str w, false⟩, a7, a8, none, none, none], r3⟩) (fun fl s' => fl = .nx ∧ I ds s') := by
      intro w a7 r3 hw
      subst hB
      have hw5 : w.length ≤ sizeLine := by have := hw.2.1; unfold sizeLine; show w.cps.size ≤ _; omega
      have hc5 : ∀ c : Nat, (cutS w none (some 5)).length + (ch c).length ≤ sizeLine := fun c => by
        have e : (cut5 w).cps.toList.length = _ := congrArg List.length (cut5_cps w)
        rw [List.length_take] at e
        show (cut5 w).cps.size + 1 ≤ _
        rw [size_eq, e]
        unfold sizeLine
        omega
      generalize hL2 : mLc [9] _ _ _ _ = L2
      generalize hL3 : mLc [11] _ _ _ _ = L3
      have eL2 : L2 ⟨[some ⟨.res, false⟩, some ⟨.int n, false⟩, some ⟨.str "abcdefghijklmnopqrstuvwxyz", false⟩, some ⟨.lst (dS found), true⟩, some ⟨.lst (dS names0), true⟩, some ⟨d, false⟩, some ⟨.str w, false⟩, a7, a8, none, none, none], r3⟩ = some (.tmp (.lst (lets.map fun c => .str (cut5 w ++ ch c))), ⟨[some ⟨.res, false⟩, some ⟨.int n, false⟩, some ⟨.str "abcdefghijklmnopqrstuvwxyz", false⟩, some ⟨.lst (dS found), true⟩, some ⟨.lst (dS names0), true⟩, some ⟨d, false⟩, some ⟨.str w, false⟩, a7, a8, none, none, none], r3⟩) := by
        rw [← hL2]
        refine mLc_all (fun c => .str (ch c)) (fun c => .str (cut5 w ++ ch c)) lets ?_ (by rfl) (fun c hc => ?_) (by decide)
        · simp [fnM, fnR, ent, mSeq, mSet, mV, mC, mOp1, mOp2, mChain, mAnd, mOr, mNot, mIf, mArgs, escAll, esc, soft, pk, hard, put, puts, mHards, mPar, mTup, mLst, mDct0, mCall, mRest, mRt, mRtN, mNx, mEx, mIte, mMut, mPut, mIt, bindT, bindTs, isAtom, isLst, isDK, plainAt, wipeE, backE, mFor, mLc, mDc, mWhile, mBk, mCt, mNo, mSl, mNoP, mPt, mJoin, mRng1, mRng2, mZip, mCallK, pickL, mMeth, mProp, mMake, mFld, fnI, fnIR, mDisp, mPairs, o2I, gtI, geI, leI, mStar, mStarT, mStarL, mAugI, mIndex, itemsOf, lets_eq, ch]
        · simp [fnM, fnR, ent, mSeq, mSet, mV, mC, mOp1, mOp2, mChain, mAnd, mOr, mNot, mIf, mArgs, escAll, esc, soft, pk, hard, put, puts, mHards, mPar, mTup, mLst, mDct0, mCall, mRest, mRt, mRtN, mNx, mEx, mIte, mMut, mPut, mIt, bindT, bindTs, isAtom, isLst, isDK, plainAt, wipeE, backE, mFor, mLc, mDc, mWhile, mBk, mCt, mNo, mSl, mNoP, mPt, mJoin, mRng1, mRng2, mZip, mCallK, pickL, mMeth, mProp, mMake, mFld, fnI, fnIR, mDisp, mPairs, o2I, gtI, geI, leI, mStar, mStarT, mStarL, mAugI, mIndex, cutD, hw5, addD, hc5 c, cut5]
      have eL3 : L3 ⟨[some ⟨.res, false⟩, some ⟨.int n, false⟩, some ⟨.str "abcdefghijklmnopqrstuvwxyz", false⟩, some ⟨.lst (dS found), true⟩, some ⟨.lst (dS names0), true⟩, some ⟨d, false⟩, some ⟨.str w, false⟩, a7, some ⟨.lst (dS (nearL w)), true⟩, none, none, none], r3⟩ = some (.tmp (.lst (((nearL w).filter fun x => !decide (x ∈ found)).map D.str)), ⟨[some ⟨.res, false⟩, some ⟨.int n, false⟩, some ⟨.str "abcdefghijklmnopqrstuvwxyz", false⟩, some ⟨.lst (dS found), true⟩, some ⟨.lst (dS names0), true⟩, some ⟨d, false⟩, some ⟨.str w, false⟩, a7, some ⟨.lst (dS (nearL w)), false⟩, none, none, none], r3⟩) := by
        rw [← hL3]
        refine mLc_enc D.str (fun x => !decide (x ∈ found)) D.str (nearL w) ?_ (by rfl) (fun x hx => ?_) (by show (lets.map _).length + 1 ≤ _; rw [List.length_map]; decide)
        · simp [fnM, fnR, ent, mSeq, mSet, mV, mC, mOp1, mOp2, mChain, mAnd, mOr, mNot, mIf, mArgs, escAll, esc, soft, pk, hard, put, puts, mHards, mPar, mTup, mLst, mDct0, mCall, mRest, mRt, mRtN, mNx, mEx, mIte, mMut, mPut, mIt, bindT, bindTs, isAtom, isLst, isDK, plainAt, wipeE, backE, mFor, mLc, mDc, mWhile, mBk, mCt, mNo, mSl, mNoP, mPt, mJoin, mRng1, mRng2, mZip, mCallK, pickL, mMeth, mProp, mMake, mFld, fnI, fnIR, mDisp, mPairs, o2I, gtI, geI, leI, mStar, mStarT, mStarL, mAugI, mIndex, itemsOf, dS]
        · simp [fnM, fnR, ent, mSeq, mSet, mV, mC, mOp1, mOp2, mChain, mAnd, mOr, mNot, mIf, mArgs, escAll, esc, soft, pk, hard, put, puts, mHards, mPar, mTup, mLst, mDct0, mCall, mRest, mRt, mRtN, mNx, mEx, mIte, mMut, mPut, mIt, bindT, bindTs, isAtom, isLst, isDK, plainAt, wipeE, backE, mFor, mLc, mDc, mWhile, mBk, mCt, mNo, mSl, mNoP, mPt, mJoin, mRng1, mRng2, mZip, mCallK, pickL, mMeth, mProp, mMake, mFld, fnI, fnIR, mDisp, mPairs, o2I, gtI, geI, leI, mStar, mStarT, mStarL, mAugI, mIndex, ninD, in_lst]
      have hpos := near_left w found (by omega)
      generalize hz : ((nearL w).filter fun x => !decide (x ∈ found)) = zs at hpos eL3
      match zs, hpos, hz with
      | z :: zs, _, hz =>
        have hz1 : z ∈ (nearL w).filter fun x => !decide (x ∈ found) := by rw [hz]; exact List.mem_cons_self
        obtain ⟨hz2, hz3⟩ := List.mem_filter.mp hz1
        have hz3 : z ∉ found := by simpa using hz3
        have hnear : (.str w :: lets.map fun c => D.str (cut5 w ++ ch c)) = dS (nearL w) := by simp [dS, nearL]
        have hl1 : lets.length + 1 ≤ sizeLine := by decide
        have hl2 : found.length < sizeLine := by unfold sizeLine; omega
        have hl3 : (dS found).length < sizeLine := by rw [dS_length]; exact hl2
        have ha : atI (D.str z :: zs.map D.str) 0 = some (.str z) := by simp [atI, ixN]
        have hd : dS found ++ [.str z] = dS (found ++ [z]) := by simp [dS]
        simp [fnM, fnR, ent, mSeq, mSet, mV, mC, mOp1, mOp2, mChain, mAnd, mOr, mNot, mIf, mArgs, escAll, esc, soft, pk, hard, put, puts, mHards, mPar, mTup, mLst, mDct0, mCall, mRest, mRt, mRtN, mNx, mEx, mIte, mMut, mPut, mIt, bindT, bindTs, isAtom, isLst, isDK, plainAt, wipeE, backE, mFor, mLc, mDc, mWhile, mBk, mCt, mNo, mSl, mNoP, mPt, mJoin, mRng1, mRng2, mZip, mCallK, pickL, mMeth, mProp, mMake, mFld, fnI, fnIR, mDisp, mPairs, o2I, gtI, geI, leI, mStar, mStarT, mStarL, mAugI, mIndex, eL2, addD, hl1, Nat.add_comm 1, hnear, eL3, idxD, idxS, ha, appL, hl3, hd]
        refine ⟨found ++ [z], _, _, _, _, r3, rfl, by simp; omega, ?_, ?_⟩
        · rw [List.nodup_append]
          exact ⟨h2, by simp, fun a hfa b hb => by simp at hb; subst hb; exact fun e => hz3 (e ▸ hfa)⟩
        · intro y hy
          rcases List.mem_append.mp hy with hy | hy
          · exact h3 y hy
          · have : y = z := by simpa using hy
            rw [this]; exact isName_near hw z hz2
    by_cases hk : k2 = 0
    · subst hk
      simp [fnM, fnR, ent, mSeq, mSet, mV, mC, mOp1, mOp2, mChain, mAnd, mOr, mNot, mIf, mArgs, escAll, esc, soft, pk, hard, put, puts, mHards, mPar, mTup, mLst, mDct0, mCall, mRest, mRt, mRtN, mNx, mEx, mIte, mMut, mPut, mIt, bindT, bindTs, isAtom, isLst, isDK, plainAt, wipeE, backE, mFor, mLc, mDc, mWhile, mBk, mCt, mNo, mSl, mNoP, mPt, mJoin, mRng1, mRng2, mZip, mCallK, pickL, mMeth, mProp, mMake, mFld, fnI, fnIR, mDisp, mPairs, o2I, gtI, geI, leI, mStar, mStarT, mStarL, mAugI, mIndex, e1, e2]
      refine (tail w1 a7 r2 hw1).mono ?_
      rintro fl s' ⟨rfl, h⟩
      simpa using h
    · obtain ⟨d3, r3, hd3, e3⟩ := pick_ok hT [.int 1, .int 2, .int 6] (by decide) (by decide) r2
      obtain ⟨m, hm1, hm2, rfl⟩ : ∃ m : Nat, 1 ≤ m ∧ m ≤ 6 ∧ d3 = .int m := by
        simp only [List.mem_cons, List.not_mem_nil, or_false] at hd3
        rcases hd3 with rfl | rfl | rfl
        · exact ⟨1, by omega, by omega, rfl⟩
        · exact ⟨2, by omega, by omega, rfl⟩
        · exact ⟨6, by omega, by omega, rfl⟩
      obtain ⟨k4, r4, hk4, e4⟩ := hT r3 m (by omega) (by omega)
      generalize hL1 : mLc [10] _ _ _ _ = L1
      have eL1 : Ev (L1 ⟨[some ⟨.res, false⟩, some ⟨.int n, false⟩, some ⟨.str "abcdefghijklmnopqrstuvwxyz", false⟩, some ⟨.lst (dS found), true⟩, some ⟨.lst (dS names0), true⟩, some ⟨d, false⟩, some ⟨.str w1, false⟩, some ⟨.int (1 + (k4 : Int)), false⟩, a8, none, none, none], r4⟩) (fun v s => ∃ (cs : List Nat) (r5 : R), cs.length = k4 + 1 ∧ (∀ c ∈ cs, c ∈ lets) ∧ v = .tmp (.lst (dS (cs.map ch))) ∧ s = ⟨[some ⟨.res, false⟩, some ⟨.int n, false⟩, some ⟨.str "abcdefghijklmnopqrstuvwxyz", false⟩, some ⟨.lst (dS found), true⟩, some ⟨.lst (dS names0), true⟩, some ⟨d, false⟩, some ⟨.str w1, false⟩, some ⟨.int (1 + (k4 : Int)), false⟩, a8, none, none, none], r5⟩) := by
        rw [← hL1]
        have hi : mRng1 (mV 7) (⟨[some ⟨.res, false⟩, some ⟨.int n, false⟩, some ⟨.str "abcdefghijklmnopqrstuvwxyz", false⟩, some ⟨.lst (dS found), true⟩, some ⟨.lst (dS names0), true⟩, some ⟨d, false⟩, some ⟨.str w1, false⟩, some ⟨.int (1 + (k4 : Int)), false⟩, a8, none, none, none], r4⟩ : S R) = some (rangeOf (k4 + 1) 0, ⟨[some ⟨.res, false⟩, some ⟨.int n, false⟩, some ⟨.str "abcdefghijklmnopqrstuvwxyz", false⟩, some ⟨.lst (dS found), true⟩, some ⟨.lst (dS names0), true⟩, some ⟨d, false⟩, some ⟨.str w1, false⟩, some ⟨.int (1 + (k4 : Int)), false⟩, a8, none, none, none], r4⟩) := by
          exact rng1 (i := 1 + (k4 : Int)) rfl (by omega) (by omega)
        simp only [mLc, hi, Option.bind, Ev_map]
        refine (lc_ev (fun ds acc s => ∃ (cs : List Nat) (r5 : R), acc = dS (cs.map ch) ∧ cs.length + ds.length = k4 + 1 ∧ (∀ c ∈ cs, c ∈ lets) ∧ s = ⟨[some ⟨.res, false⟩, some ⟨.int n, false⟩, some ⟨.str "abcdefghijklmnopqrstuvwxyz", false⟩, some ⟨.lst (dS found), true⟩, some ⟨.lst (dS names0), true⟩, some ⟨d, false⟩, some ⟨.str w1, false⟩, some ⟨.int (1 + (k4 : Int)), false⟩, a8, none, none, none], r5⟩) ?_ (rangeOf (k4 + 1) 0) [] _ ⟨[], r4, rfl, by simp [range_len], by simp, rfl⟩).mono ?_
        · rintro d' ds' acc s ⟨cs, r5, rfl, hl, hc, rfl⟩
          simp only [List.length_cons] at hl
          obtain ⟨c, r6, hc6, e6⟩ := pick_let hT r5
          have hlen : cs.length < sizeLine := by unfold sizeLine; omega
          refine ⟨rfl, ?_⟩
          simp [fnM, fnR, ent, mSeq, mSet, mV, mC, mOp1, mOp2, mChain, mAnd, mOr, mNot, mIf, mArgs, escAll, esc, soft, pk, hard, put, puts, mHards, mPar, mTup, mLst, mDct0, mCall, mRest, mRt, mRtN, mNx, mEx, mIte, mMut, mPut, mIt, bindT, bindTs, isAtom, isLst, isDK, plainAt, wipeE, backE, mFor, mLc, mDc, mWhile, mBk, mCt, mNo, mSl, mNoP, mPt, mJoin, mRng1, mRng2, mZip, mCallK, pickL, mMeth, mProp, mMake, mFld, fnI, fnIR, mDisp, mPairs, o2I, gtI, geI, leI, mStar, mStarT, mStarL, mAugI, mIndex, e6, dS, hlen]
          exact ⟨cs ++ [c], by simp, by simp; omega, fun x hx => by
            rcases List.mem_append.mp hx with hx | hx
            · exact hc x hx
            · have : x = c := by simpa using hx
              rw [this]; exact hc6⟩
        · rintro zs s ⟨cs, r5, rfl, hl, hc, rfl⟩
          exact ⟨cs, r5, by simpa using hl, hc, rfl, rfl⟩
      obtain ⟨v, s5, e5, cs, r5, hcl, hcm, rfl, rfl⟩ := eL1
      have hw2 : isName (Txt.join "" (cs.map ch)) := by
        refine ⟨?_, ?_, ?_⟩
        · rw [size_eq, join_cps]; omega
        · rw [size_eq, join_cps]; omega
        · rw [join_cps]; exact hcm
      have hj : (((cs.map ch).map (·.length)).sum + (cs.map ch).length * ("" : Str).length ≤ 16777216) := by
        have e : ((cs.map ch).map (·.length)) = List.replicate cs.length 1 := by
          rw [List.map_map]
          exact List.eq_replicate_iff.mpr ⟨by simp, fun b hb => by obtain ⟨c, _, rfl⟩ := List.mem_map.mp hb; rfl⟩
        rw [e]
        simp
        show _ + _ * 0 ≤ _
        omega
      have hj2 : joinD (.str "") (.lst (dS (cs.map ch))) = some (.sh (.str (Txt.join "" (cs.map ch)))) := by
        simp only [joinD, strsOf_dS, Option.bind, hj, if_true]
      have hk0 : 0 < k2 := by omega
      simp [fnM, fnR, ent, mSeq, mSet, mV, mC, mOp1, mOp2, mChain, mAnd, mOr, mNot, mIf, mArgs, escAll, esc, soft, pk, hard, put, puts, mHards, mPar, mTup, mLst, mDct0, mCall, mRest, mRt, mRtN, mNx, mEx, mIte, mMut, mPut, mIt, bindT, bindTs, isAtom, isLst, isDK, plainAt, wipeE, backE, mFor, mLc, mDc, mWhile, mBk, mCt, mNo, mSl, mNoP, mPt, mJoin, mRng1, mRng2, mZip, mCallK, pickL, mMeth, mProp, mMake, mFld, fnI, fnIR, mDisp, mPairs, o2I, gtI, geI, leI, mStar, mStarT, mStarL, mAugI, mIndex, e1, e2, hk0, e3, e4, addD, e5, hj2]
      refine (tail _ _ r5 hw2).mono ?_
      rintro fl s' ⟨rfl, h⟩
      simpa using h
  · rintro fl s ⟨rfl, found, a5, a6, a7, a8, r', rfl, h1, h2, h3⟩
    simp
    exact ⟨found, by simpa using h1, h2, h3, rfl⟩
end
end RW
namespace RW
open PySem L2
section
variable {R : Type} {T : Fm R}
def unS : D → Str
  | .str x => x
  | _ => Str.empty
theorem un_dS (xs : List Str) : (dS xs).map unS = xs := by simp [dS, Function.comp_def, unS]
theorem perm_dS {ys' : List D} {xs : List Str} (h : ys'.Perm (dS xs)) : ∃ ys, ys' = dS ys ∧ ys.Perm xs := by
  refine ⟨ys'.map unS, ?_, ?_⟩
  · have : ∀ d ∈ ys', D.str (unS d) = d := fun d hd => by
      obtain ⟨x, _, rfl⟩ := List.mem_map.mp (h.mem_iff.mp hd)
      rfl
    unfold dS
    rw [List.map_map]
    have e := List.map_congr_left this
    rw [List.map_id'] at e
    exact e.symm
  · have := h.map unS
    rw [un_dS] at this
    exact this
theorem mixedS_ok (hT : Draws T) (xs : List Str) (h2 : xs.length < 900) (r : R) : ∃ ys r', ys.Perm xs ∧ f__law_mixed T [.res, .lst (dS xs)] r = some (.tmp (.lst (dS ys)), r') := by
  obtain ⟨ys', r', hp, e⟩ := mixed_ok hT (dS xs) (by rw [dS_length]; exact h2) r
  obtain ⟨ys, rfl, hp'⟩ := perm_dS hp
  exact ⟨ys, r', hp', e⟩
theorem pickS_ok (hT : Draws T) (xs : List Str) (h : 0 < xs.length) (h2 : xs.length < 1000) (r : R) : ∃ y r', y ∈ xs ∧ f__law_pick T [.res, .lst (dS xs)] r = some (.sh (.str y), r') := by
  obtain ⟨d, r', hd, e⟩ := pick_ok hT (dS xs) (by rw [dS_length]; exact h) (by rw [dS_length]; omega) r
  obtain ⟨y, hy, rfl⟩ := List.mem_map.mp hd
  exact ⟨y, r', hy, e⟩
theorem pickO_ok (hT : Draws T) (xs : List (Option Str)) (h : 0 < xs.length) (h2 : xs.length < 1000) (r : R) : ∃ y r', y ∈ xs ∧ f__law_pick T [.res, .lst (xs.map dO)] r = some (.sh (dO y), r') := by
  obtain ⟨d, r', hd, e⟩ := pick_ok hT (xs.map dO) (by simpa using h) (by simp; omega) r
  obtain ⟨y, hy, rfl⟩ := List.mem_map.mp hd
  exact ⟨y, r', hy, e⟩
/-! ### tables -/
abbrev Tab := List (Str × Option Str)
def PlaceOk (dots : List Str) (e x : Str) (y : Option Str) : Prop := y = none ∨ y = some e ∨ ∃ z, y = some z ∧ z ∈ dots ∧ z ≠ x
def TabOk (dots : List Str) (e : Str) (t : Tab) : Prop := (t.map (·.1)).Perm dots ∧ ∀ p ∈ t, PlaceOk dots e p.1 p.2
theorem put_some (t : Tab) (k y : Str) (h : t.length < 1000) : putD (dT dO t) (.str k) (.str y) = some (dT dO (putT t k (some y))) := putD_dT dO t k (some y) (by unfold sizeLine; omega)
theorem put_non (t : Tab) (k : Str) (h : t.length < 1000) : putD (dT dO t) (.str k) .non = some (dT dO (putT t k none)) := putD_dT dO t k none (by unfold sizeLine; omega)
theorem dO_atom (y : Option Str) : isAtom (.sh (dO y)) = true := by cases y <;> rfl
theorem tree_ok (hT : Draws T) (dots : List Str) (e : Str) (hl : dots.length < 100) (hn : dots.Nodup) (he : e ∉ dots) (r : R) : ∃ t r', TabOk dots e t ∧ f__law_tree T [.res, .lst (dS dots), .str e] r = some (.tmp (dT dO t), r') := by
  suffices h : Ev (f__law_tree T [.res, .lst (dS dots), .str e] r) (fun v r' => ∃ t, TabOk dots e t ∧ v = .tmp (dT dO t)) by
    obtain ⟨v, r', e, t, h1, rfl⟩ := h
    exact ⟨t, r', h1, e⟩
  obtain ⟨ys, r1, hp, e1⟩ := mixedS_ok hT dots (by omega) r
  have hny : ys.Nodup := hp.nodup_iff.mpr hn
  have hly := hp.length_eq
  unfold f__law_tree m__law_tree
  generalize hF : mFor _ _ _ = F1
  simp [fnM, fnR, ent, mSeq, mSet, mV, mC, mOp1, mOp2, mChain, mAnd, mOr, mNot, mIf, mArgs, escAll, esc, soft, pk, hard, put, puts, mHards, mPar, mTup, mLst, mDct0, mCall, mRest, mRt, mRtN, mNx, mEx, mIte, mMut, mPut, mIt, bindT, bindTs, isAtom, isLst, isDK, plainAt, wipeE, backE, mFor, mLc, mDc, mWhile, mBk, mCt, mNo, mSl, mNoP, mPt, mJoin, mRng1, mRng2, mZip, mCallK, pickL, mMeth, mProp, mMake, mFld, fnI, fnIR, mDisp, mPairs, o2I, gtI, geI, leI, mStar, mStarT, mStarL, mAugI, mIndex]
  subst hF
  refine mFor_ev (ds := dS ys) (s1 := ⟨[some ⟨.res, false⟩, some ⟨.lst (dS dots), false⟩, some ⟨.str e, false⟩, some ⟨.dct false [], true⟩, some ⟨.lst [.str e], true⟩, none], r1⟩) (by simp [fnM, fnR, ent, mSeq, mSet, mV, mC, mOp1, mOp2, mChain, mAnd, mOr, mNot, mIf, mArgs, escAll, esc, soft, pk, hard, put, puts, mHards, mPar, mTup, mLst, mDct0, mCall, mRest, mRt, mRtN, mNx, mEx, mIte, mMut, mPut, mIt, bindT, bindTs, isAtom, isLst, isDK, plainAt, wipeE, backE, mFor, mLc, mDc, mWhile, mBk, mCt, mNo, mSl, mNoP, mPt, mJoin, mRng1, mRng2, mZip, mCallK, pickL, mMeth, mProp, mMake, mFld, fnI, fnIR, mDisp, mPairs, o2I, gtI, geI, leI, mStar, mStarT, mStarL, mAugI, mIndex, e1, itemsOf]) ?_
  let I : List D → S R → Prop := fun ds s => ∃ (pre post : List Str) (t : Tab) (a5 : Option Cell) (r' : R), ds = dS post ∧ s = ⟨[some ⟨.res, false⟩, some ⟨.lst (dS dots), false⟩, some ⟨.str e, false⟩, some ⟨dT dO t, true⟩, some ⟨.lst (dS (e :: pre)), true⟩, a5], r'⟩ ∧ pre ++ post = ys ∧ t.map (·.1) = pre ∧ ∀ p ∈ t, PlaceOk dots e p.1 p.2
  refine (for_ev I (fun fl s => fl = .nx ∧ I [] s) (fun d ds s hs => ?_) (fun s hs => ⟨rfl, hs⟩) (dS ys) _ ⟨[], ys, [], none, r1, rfl, rfl, rfl, rfl, by simp⟩).mono ?_
  · obtain ⟨pre, post, t, a5, r', hd, rfl, h1, h2, h3⟩ := hs
    match post, hd with
    | x :: post, hd =>
      obtain ⟨rfl, rfl⟩ : d = .str x ∧ ds = dS post := by
        have := List.cons.inj hd
        exact this
      have hxy : x ∈ ys := by rw [← h1]; simp
      have hx : x ∈ dots := hp.mem_iff.mp hxy
      have hxp : x ∉ pre := by
        rw [← h1] at hny
        have := (List.nodup_append.mp hny).2.2
        exact fun z => this x z x List.mem_cons_self rfl
      have hlen : pre.length + (post.length + 1) = dots.length := by
        rw [← hly, ← h1, List.length_append, List.length_cons]
      have htl : t.length = pre.length := by rw [← h2, List.length_map]
      obtain ⟨y, r2, hy, e2⟩ := pickS_ok hT (e :: pre) (by simp) (by simp; omega) r'
      have hap : (dS (e :: pre)).length < sizeLine := by rw [dS_length]; unfold sizeLine; simp; omega
      have hd : dS (e :: pre) ++ [.str x] = dS (e :: (pre ++ [x])) := by simp [dS]
      simp [fnM, fnR, ent, mSeq, mSet, mV, mC, mOp1, mOp2, mChain, mAnd, mOr, mNot, mIf, mArgs, escAll, esc, soft, pk, hard, put, puts, mHards, mPar, mTup, mLst, mDct0, mCall, mRest, mRt, mRtN, mNx, mEx, mIte, mMut, mPut, mIt, bindT, bindTs, isAtom, isLst, isDK, plainAt, wipeE, backE, mFor, mLc, mDc, mWhile, mBk, mCt, mNo, mSl, mNoP, mPt, mJoin, mRng1, mRng2, mZip, mCallK, pickL, mMeth, mProp, mMake, mFld, fnI, fnIR, mDisp, mPairs, o2I, gtI, geI, leI, mStar, mStarT, mStarL, mAugI, mIndex, e2, put_some t x y (by omega), appL, hap, hd]
      refine ⟨pre ++ [x], post, putT t x (some y), _, r2, rfl, rfl, by rw [← h1]; simp, ?_, ?_⟩
      · rw [putT_new (by rw [h2]; exact hxp), List.map_append, h2]; rfl
      · rw [putT_new (by rw [h2]; exact hxp)]
        intro p hp'
        rcases List.mem_append.mp hp' with hp' | hp'
        · exact h3 p hp'
        · have : p = (x, some y) := by simpa using hp'
          subst this
          rcases List.mem_cons.mp hy with rfl | hy
          · exact .inr (.inl rfl)
          · refine .inr (.inr ⟨y, rfl, hp.mem_iff.mp (by rw [← h1]; exact List.mem_append_left _ hy), fun z => hxp (by have z : y = x := z; rw [← z]; exact hy)⟩)
  · rintro fl s ⟨rfl, pre, post, t, a5, r', hd, rfl, h1, h2, h3⟩
    have : post = [] := by
      cases post with
      | nil => rfl
      | cons => cases hd
    subst this
    simp
    exact ⟨t, ⟨by rw [h2]; simp at h1; rw [h1]; exact hp, h3⟩, rfl⟩
theorem wild_ok (hT : Draws T) (dots : List Str) (e : Str) (hl : dots.length < 100) (hn : dots.Nodup) (he : e ∉ dots) (r : R) : ∃ t r', TabOk dots e t ∧ f__law_wild T [.res, .lst (dS dots), .str e] r = some (.tmp (dT dO t), r') := by
  suffices h : Ev (f__law_wild T [.res, .lst (dS dots), .str e] r) (fun v r' => ∃ t, TabOk dots e t ∧ v = .tmp (dT dO t)) by
    obtain ⟨v, r', e, t, h1, rfl⟩ := h
    exact ⟨t, r', h1, e⟩
  unfold f__law_wild m__law_wild
  generalize hF : mFor _ _ _ = F1
  simp [fnM, fnR, ent, mSeq, mSet, mV, mC, mOp1, mOp2, mChain, mAnd, mOr, mNot, mIf, mArgs, escAll, esc, soft, pk, hard, put, puts, mHards, mPar, mTup, mLst, mDct0, mCall, mRest, mRt, mRtN, mNx, mEx, mIte, mMut, mPut, mIt, bindT, bindTs, isAtom, isLst, isDK, plainAt, wipeE, backE, mFor, mLc, mDc, mWhile, mBk, mCt, mNo, mSl, mNoP, mPt, mJoin, mRng1, mRng2, mZip, mCallK, pickL, mMeth, mProp, mMake, mFld, fnI, fnIR, mDisp, mPairs, o2I, gtI, geI, leI, mStar, mStarT, mStarL, mAugI, mIndex]
  subst hF
  refine mFor_ev (ds := dS dots) (s1 := ⟨[some ⟨.res, false⟩, some ⟨.lst (dS dots), false⟩, some ⟨.str e, false⟩, some ⟨.dct false [], true⟩, none, none, none], r⟩) (by simp [fnM, fnR, ent, mSeq, mSet, mV, mC, mOp1, mOp2, mChain, mAnd, mOr, mNot, mIf, mArgs, escAll, esc, soft, pk, hard, put, puts, mHards, mPar, mTup, mLst, mDct0, mCall, mRest, mRt, mRtN, mNx, mEx, mIte, mMut, mPut, mIt, bindT, bindTs, isAtom, isLst, isDK, plainAt, wipeE, backE, mFor, mLc, mDc, mWhile, mBk, mCt, mNo, mSl, mNoP, mPt, mJoin, mRng1, mRng2, mZip, mCallK, pickL, mMeth, mProp, mMake, mFld, fnI, fnIR, mDisp, mPairs, o2I, gtI, geI, leI, mStar, mStarT, mStarL, mAugI, mIndex, itemsOf]) ?_
  let I : List D → S R → Prop := fun ds s => ∃ (pre post : List Str) (t : Tab) (a4 a5 : Option Cell) (r' : R), ds = dS post ∧ s = ⟨[some ⟨.res, false⟩, some ⟨.lst (dS dots), false⟩, some ⟨.str e, false⟩, some ⟨dT dO t, true⟩, a4, a5, none], r'⟩ ∧ pre ++ post = dots ∧ t.map (·.1) = pre ∧ ∀ p ∈ t, PlaceOk dots e p.1 p.2
  refine (for_ev I (fun fl s => fl = .nx ∧ I [] s) (fun d ds s hs => ?_) (fun s hs => ⟨rfl, hs⟩) (dS dots) _ ⟨[], dots, [], none, none, r, rfl, rfl, rfl, rfl, by simp⟩).mono ?_
  · obtain ⟨pre, post, t, a4, a5, r', hd, rfl, h1, h2, h3⟩ := hs
    match post, hd with
    | x :: post, hd =>
      obtain ⟨rfl, rfl⟩ : d = .str x ∧ ds = dS post := List.cons.inj hd
      have hxp : x ∉ pre := by
        rw [← h1] at hn
        have := (List.nodup_append.mp hn).2.2
        exact fun z => this x z x List.mem_cons_self rfl
      have hlen : pre.length + (post.length + 1) = dots.length := by
        rw [← h1, List.length_append, List.length_cons]
      have htl : t.length = pre.length := by rw [← h2, List.length_map]
      generalize hL : mLc _ _ _ _ _ = L
      have eL : L ⟨[some ⟨.res, false⟩, some ⟨.lst (dS dots), false⟩, some ⟨.str e, false⟩, some ⟨dT dO t, true⟩, some ⟨.str x, false⟩, a5, none], r'⟩ = some (.tmp (.lst ((dots.filter fun y => !decide (y = x)).map D.str)), ⟨[some ⟨.res, false⟩, some ⟨.lst (dS dots), false⟩, some ⟨.str e, false⟩, some ⟨dT dO t, true⟩, some ⟨.str x, false⟩, a5, none], r'⟩) := by
        rw [← hL]
        refine mLc_enc D.str (fun y => !decide (y = x)) D.str dots ?_ (by rfl) (fun y hy => ?_) (by unfold sizeLine; omega)
        · simp [fnM, fnR, ent, mSeq, mSet, mV, mC, mOp1, mOp2, mChain, mAnd, mOr, mNot, mIf, mArgs, escAll, esc, soft, pk, hard, put, puts, mHards, mPar, mTup, mLst, mDct0, mCall, mRest, mRt, mRtN, mNx, mEx, mIte, mMut, mPut, mIt, bindT, bindTs, isAtom, isLst, isDK, plainAt, wipeE, backE, mFor, mLc, mDc, mWhile, mBk, mCt, mNo, mSl, mNoP, mPt, mJoin, mRng1, mRng2, mZip, mCallK, pickL, mMeth, mProp, mMake, mFld, fnI, fnIR, mDisp, mPairs, o2I, gtI, geI, leI, mStar, mStarT, mStarL, mAugI, mIndex, itemsOf, dS]
        · simp [fnM, fnR, ent, mSeq, mSet, mV, mC, mOp1, mOp2, mChain, mAnd, mOr, mNot, mIf, mArgs, escAll, esc, soft, pk, hard, put, puts, mHards, mPar, mTup, mLst, mDct0, mCall, mRest, mRt, mRtN, mNx, mEx, mIte, mMut, mPut, mIt, bindT, bindTs, isAtom, isLst, isDK, plainAt, wipeE, backE, mFor, mLc, mDc, mWhile, mBk, mCt, mNo, mSl, mNoP, mPt, mJoin, mRng1, mRng2, mZip, mCallK, pickL, mMeth, mProp, mMake, mFld, fnI, fnIR, mDisp, mPairs, o2I, gtI, geI, leI, mStar, mStarT, mStarL, mAugI, mIndex, ne_str]
      have hfl : (dots.filter fun y => !decide (y = x)).length ≤ dots.length := List.length_filter_le _ _
      generalize hsp : (dots.filter fun y => !decide (y = x)) = sp at eL hfl
      obtain ⟨y, r2, hy, e2⟩ := pickO_ok hT (sp.map some ++ sp.map some ++ [some e, some e, none]) (by simp; omega) (by simp; omega) r'
      have hmap : (sp.map some ++ sp.map some ++ [some e, some e, none]).map dO = sp.map D.str ++ (sp.map D.str ++ [.str e, .str e, .non]) := by simp [dO, Function.comp_def]
      rw [hmap] at e2
      have hz1 : sp.length + sp.length ≤ sizeLine := by unfold sizeLine; omega
      have hz2 : sp.length + sp.length + 3 ≤ sizeLine := by unfold sizeLine; omega
      have hpl : PlaceOk dots e x y := by
        have hy : (y ∈ sp.map some ∨ y ∈ sp.map some) ∨ y = some e ∨ y = none := by
          simp only [List.mem_append, List.mem_cons, List.not_mem_nil, or_false] at hy
          rcases hy with (hy | hy) | hy | hy | hy
          · exact .inl (.inl hy)
          · exact .inl (.inl hy)
          · exact .inr (.inl hy)
          · exact .inr (.inl hy)
          · exact .inr (.inr hy)
        rcases hy with hy | hy | hy
        · obtain ⟨z, hz, rfl⟩ := List.mem_map.mp (hy.elim id id)
          rw [← hsp] at hz
          obtain ⟨h5, h6⟩ := List.mem_filter.mp hz
          exact .inr (.inr ⟨z, rfl, h5, by simpa using h6⟩)
        · exact .inr (.inl hy)
        · exact .inl hy
      have fin : ∀ a4 a5, I (dS post) ⟨[some ⟨.res, false⟩, some ⟨.lst (dS dots), false⟩, some ⟨.str e, false⟩, some ⟨dT dO (putT t x y), true⟩, a4, a5, none], r2⟩ := fun a4 a5 => by
        refine ⟨pre ++ [x], post, putT t x y, a4, a5, r2, rfl, rfl, by rw [← h1]; simp, ?_, ?_⟩
        · rw [putT_new (by rw [h2]; exact hxp), List.map_append, h2]; rfl
        · rw [putT_new (by rw [h2]; exact hxp)]
          intro p hp'
          rcases List.mem_append.mp hp' with hp' | hp'
          · exact h3 p hp'
          · have : p = (x, y) := by simpa using hp'
            subst this
            exact hpl
      cases y with
      | none =>
        have e2 : f__law_pick T [.res, .lst (sp.map D.str ++ (sp.map D.str ++ [.str e, .str e, .non]))] r' = some (.sh .non, r2) := e2
        simp [fnM, fnR, ent, mSeq, mSet, mV, mC, mOp1, mOp2, mChain, mAnd, mOr, mNot, mIf, mArgs, escAll, esc, soft, pk, hard, put, puts, mHards, mPar, mTup, mLst, mDct0, mCall, mRest, mRt, mRtN, mNx, mEx, mIte, mMut, mPut, mIt, bindT, bindTs, isAtom, isLst, isDK, plainAt, wipeE, backE, mFor, mLc, mDc, mWhile, mBk, mCt, mNo, mSl, mNoP, mPt, mJoin, mRng1, mRng2, mZip, mCallK, pickL, mMeth, mProp, mMake, mFld, fnI, fnIR, mDisp, mPairs, o2I, gtI, geI, leI, mStar, mStarT, mStarL, mAugI, mIndex, eL, addD, hz1, hz2, e2, put_non t x (by omega)]
        exact fin _ _
      | some y =>
        have e2 : f__law_pick T [.res, .lst (sp.map D.str ++ (sp.map D.str ++ [.str e, .str e, .non]))] r' = some (.sh (.str y), r2) := e2
        simp [fnM, fnR, ent, mSeq, mSet, mV, mC, mOp1, mOp2, mChain, mAnd, mOr, mNot, mIf, mArgs, escAll, esc, soft, pk, hard, put, puts, mHards, mPar, mTup, mLst, mDct0, mCall, mRest, mRt, mRtN, mNx, mEx, mIte, mMut, mPut, mIt, bindT, bindTs, isAtom, isLst, isDK, plainAt, wipeE, backE, mFor, mLc, mDc, mWhile, mBk, mCt, mNo, mSl, mNoP, mPt, mJoin, mRng1, mRng2, mZip, mCallK, pickL, mMeth, mProp, mMake, mFld, fnI, fnIR, mDisp, mPairs, o2I, gtI, geI, leI, mStar, mStarT, mStarL, mAugI, mIndex, eL, addD, hz1, hz2, e2, put_some t x y (by omega)]
        exact fin _ _
  · rintro fl s ⟨rfl, pre, post, t, a4, a5, r', hd, rfl, h1, h2, h3⟩
    have : post = [] := by
      cases post with
      | nil => rfl
      | cons => cases hd
    subst this
    simp
    exact ⟨t, ⟨by rw [h2]; simp at h1; rw [h1], h3⟩, rfl⟩
/-! ### paths -/
theorem zipIdx_map {α β : Type} (f : α → β) : ∀ (xs : List α) (k : Nat), (xs.map f).zipIdx k = (xs.zipIdx k).map fun p => (f p.1, p.2)
  | [], _ => rfl
  | x :: xs, k => by simp [List.zipIdx_cons, zipIdx_map f xs (k + 1)]
theorem fst_zip {α : Type} : ∀ (xs : List α) (k : Nat), (xs.zipIdx k).map (fun p => p.1) = xs
  | [], _ => rfl
  | x :: xs, k => by simp [List.zipIdx_cons, fst_zip xs (k + 1)]
theorem enum_dS (ys : List Str) : enumOf (dS ys) = ys.zipIdx.map fun p => .tup [.int (p.2 : Nat), .str p.1] := by
  unfold enumOf dS
  rw [zipIdx_map, List.map_map]; rfl
theorem cut_last {α : Type} (xs : List α) (a : α) : cutL (xs ++ [a]) none (some (-1)) = xs := by
  unfold cutL
  have e : HT.sIx (xs ++ [a]).length (xs ++ [a]).length (some (-1)) = xs.length := by
    unfold HT.sIx
    simp
    omega
  rw [e]
  show List.take (xs.length - 0) (List.drop 0 (xs ++ [a])) = xs
  simp
theorem merge_new {α : Type} (f : α → D) : ∀ (t acc : List (Str × α)), (t.map (·.1)).Nodup → (∀ p ∈ t, p.1 ∉ acc.map (·.1)) →
    mergeE (acc.map fun p => (D.str p.1, f p.2)) (t.map fun p => ((Sum.inr p.1 : Key), f p.2)) = (acc ++ t).map fun p => (D.str p.1, f p.2)
  | [], acc, _, _ => by simp [mergeE]
  | (k, y) :: t, acc, hn, ha => by
    rw [List.map_cons, List.nodup_cons] at hn
    have hk : k ∉ acc.map (·.1) := ha _ List.mem_cons_self
    have e : putE (acc.map fun p => (D.str p.1, f p.2)) (.str k) (f y) = (acc ++ [(k, y)]).map fun p => (D.str p.1, f p.2) := by
      rw [put_dT, putT_new hk]
    have := merge_new f t (acc ++ [(k, y)]) hn.2 (fun p hp => by
      rw [List.map_append, List.mem_append]
      intro z
      rcases z with z | z
      · exact ha p (List.mem_cons_of_mem _ hp) z
      · have : p.1 = k := by simpa using z
        exact hn.1 (by rw [← this]; exact List.mem_map_of_mem (f := (·.1)) hp))
    unfold mergeE at this ⊢
    rw [List.map_cons, List.foldl_cons]
    show List.foldl _ (putE _ (keyD (.inr k)) (f y)) _ = _
    rw [show keyD (.inr k) = D.str k from rfl, e, this]
    simp
theorem pairsIn_map {α : Type} (f : α → D) : ∀ t : List (Str × α), pairsIn (t.map fun p => .tup [.str p.1, f p.2]) = some (t.map fun p => ((Sum.inr p.1 : Key), f p.2))
  | [] => rfl
  | (k, y) :: t => by
    rw [List.map_cons, List.map_cons]
    show (kOf (.str k)).bind (fun key => (pairsIn (t.map fun p => .tup [.str p.1, f p.2])).map fun ps => (key, f y) :: ps) = _
    rw [pairsIn_map f t]; rfl
theorem dict_pairs {α : Type} (f : α → D) (t : List (Str × α)) (h : (t.map (·.1)).Nodup) : dictD (.lst (t.map fun p => .tup [.str p.1, f p.2])) = some (.tmp (dT f t)) := by
  unfold dictD
  simp only [pairsIn_map]
  have := merge_new f t [] h (by simp)
  simp only [List.map_nil, List.nil_append] at this
  simp [this, dT]
theorem path_ok (hT : Draws T) (dots : List Str) (e : Str) (hl : dots.length < 100) (hn : dots.Nodup) (he : e ∉ dots) (r : R) : ∃ t r', TabOk dots e t ∧ f__law_path T [.res, .lst (dS dots), .str e] r = some (.tmp (dT dO t), r') := by
  obtain ⟨ys, r1, hp, e1⟩ := mixedS_ok hT dots (by omega) r
  have hny : ys.Nodup := hp.nodup_iff.mpr hn
  have hly := hp.length_eq
  let t : Tab := ys.zipIdx.map fun p => (p.1, some ((ys ++ [e]).getD (p.2 + 1) e))
  have hk : t.map (·.1) = ys := by
    show (ys.zipIdx.map _).map _ = _
    rw [List.map_map]
    show ys.zipIdx.map (fun p => p.1) = ys
    exact fst_zip ys 0
  refine ⟨t, r1, ⟨by rw [hk]; exact hp, ?_⟩, ?_⟩
  · intro p hp'
    obtain ⟨⟨x, k⟩, hxk, rfl⟩ := List.mem_map.mp hp'
    obtain ⟨hk1, hk2⟩ := List.mem_zipIdx' hxk
    by_cases h : k + 1 < ys.length
    · refine .inr (.inr ⟨ys[k + 1], ?_, hp.mem_iff.mp (List.getElem_mem _), ?_⟩)
      · show some ((ys ++ [e]).getD (k + 1) e) = _
        simp [List.getD_eq_getElem?_getD, List.getElem?_append_left h, h]
      · show ys[k + 1] ≠ x
        rw [hk2]
        intro z
        have := (List.getElem_inj hny).mp z
        omega
    · refine .inr (.inl ?_)
      show some ((ys ++ [e]).getD (k + 1) e) = _
      have : k + 1 = ys.length := by omega
      rw [this]
      simp [List.getD_eq_getElem?_getD]
  · unfold f__law_path m__law_path
    generalize hL : mLc _ _ _ _ _ = L
    have hrow : dS ys ++ [.str e] = dS (ys ++ [e]) := by simp [dS]
    have eL : L ⟨[some ⟨.res, false⟩, some ⟨.lst (dS dots), false⟩, some ⟨.str e, false⟩, some ⟨.lst (dS ys ++ [.str e]), true⟩, none, none], r1⟩ = some (.tmp (.lst (t.map fun p => .tup [.str p.1, dO p.2])), ⟨[some ⟨.res, false⟩, some ⟨.lst (dS dots), false⟩, some ⟨.str e, false⟩, some ⟨.lst (dS ys ++ [.str e]), true⟩, none, none], r1⟩) := by
      have ht : (t.map fun p => D.tup [.str p.1, dO p.2]) = ys.zipIdx.map fun p => .tup [.str p.1, .str ((ys ++ [e]).getD (p.2 + 1) e)] := by
        show (ys.zipIdx.map _).map _ = _
        rw [List.map_map]; rfl
      rw [← hL, ht]
      refine mLc_all (fun p : Str × Nat => .tup [.int (p.2 : Nat), .str p.1]) (fun p => .tup [.str p.1, .str ((ys ++ [e]).getD (p.2 + 1) e)]) ys.zipIdx ?_ (by rfl) (fun p hp' => ?_) (by unfold sizeLine; simp; omega)
      · simp [fnM, fnR, ent, mSeq, mSet, mV, mC, mOp1, mOp2, mChain, mAnd, mOr, mNot, mIf, mArgs, escAll, esc, soft, pk, hard, put, puts, mHards, mPar, mTup, mLst, mDct0, mCall, mRest, mRt, mRtN, mNx, mEx, mIte, mMut, mPut, mIt, bindT, bindTs, isAtom, isLst, isDK, plainAt, wipeE, backE, mFor, mLc, mDc, mWhile, mBk, mCt, mNo, mSl, mNoP, mPt, mJoin, mRng1, mRng2, mZip, mCallK, pickL, mMeth, mProp, mMake, mFld, fnI, fnIR, mDisp, mPairs, o2I, gtI, geI, leI, mStar, mStarT, mStarL, mAugI, mIndex, negD, cutD, cut_last, enumI, enum_dS]
      · obtain ⟨x, k⟩ := p
        obtain ⟨hk1, hk2⟩ := List.mem_zipIdx' hp'
        have hlt : k + 1 < (dS (ys ++ [e])).length := by rw [dS_length]; simp; omega
        have hat : atI (dS (ys ++ [e])) ((k : Int) + 1) = some (.str ((ys ++ [e]).getD (k + 1) e)) := by
          have := atI_nat' hlt
          rw [show ((k : Int) + 1) = ((k + 1 : Nat) : Int) by omega, this]
          have hlt2 : k + 1 < (ys ++ [e]).length := by simp; omega
          have e3 : (dS (ys ++ [e]))[k + 1] = .str (ys ++ [e])[k + 1] := List.getElem_map ..
          rw [e3]
          simp [List.getD_eq_getElem?_getD, List.getElem?_eq_getElem hlt2]
        simp [fnM, fnR, ent, mSeq, mSet, mV, mC, mOp1, mOp2, mChain, mAnd, mOr, mNot, mIf, mArgs, escAll, esc, soft, pk, hard, put, puts, mHards, mPar, mTup, mLst, mDct0, mCall, mRest, mRt, mRtN, mNx, mEx, mIte, mMut, mPut, mIt, bindT, bindTs, isAtom, isLst, isDK, plainAt, wipeE, backE, mFor, mLc, mDc, mWhile, mBk, mCt, mNo, mSl, mNoP, mPt, mJoin, mRng1, mRng2, mZip, mCallK, pickL, mMeth, mProp, mMake, mFld, fnI, fnIR, mDisp, mPairs, o2I, gtI, geI, leI, mStar, mStarT, mStarL, mAugI, mIndex, addD, hrow, idxD, idxS, hat]
    have hz : ys.length + 1 ≤ sizeLine := by unfold sizeLine; omega
    have hz' : (dS ys).length + 1 ≤ sizeLine := by rw [dS_length]; exact hz
    have hd := dict_pairs dO t (by rw [hk]; exact hny)
    simp [fnM, fnR, ent, mSeq, mSet, mV, mC, mOp1, mOp2, mChain, mAnd, mOr, mNot, mIf, mArgs, escAll, esc, soft, pk, hard, put, puts, mHards, mPar, mTup, mLst, mDct0, mCall, mRest, mRt, mRtN, mNx, mEx, mIte, mMut, mPut, mIt, bindT, bindTs, isAtom, isLst, isDK, plainAt, wipeE, backE, mFor, mLc, mDc, mWhile, mBk, mCt, mNo, mSl, mNoP, mPt, mJoin, mRng1, mRng2, mZip, mCallK, pickL, mMeth, mProp, mMake, mFld, fnI, fnIR, mDisp, mPairs, o2I, gtI, geI, leI, mStar, mStarT, mStarL, mAugI, mIndex, e1, addD, hz', eL, hd]
end
end RW
namespace RW
open PySem L2
section
variable {R : Type} {T : Fm R}
theorem sort_dS {xs : List Str} (h : xs.length < 64) : sortF (.lst (dS xs)) = some (.tmp (.lst (dS (sortS xs)))) := by
  simp only [sortF, sortD, strsOf_dS, Option.bind, h, if_true]; rfl
theorem sort_dT {α : Type} {f : α → D} {t : List (Str × α)} (h : t.length < 64) : sortF (dT f t) = some (.tmp (.lst (dS (sortS (t.map (·.1)))))) := by
  unfold dT
  have h : (t.map (·.1)).length < 64 := by rw [List.length_map]; exact h
  simp only [sortF, sortD, keysStr_dT, Option.bind, h, if_true]; rfl
theorem dict_dT {α : Type} {f : α → D} {t : List (Str × α)} : dictD (dT f t) = some (.tmp (dT f t)) := rfl
theorem sortS_mem {xs : List Str} {x : Str} : x ∈ sortS xs ↔ x ∈ xs := (sortS_perm xs).mem_iff
theorem sortS_len (xs : List Str) : (sortS xs).length = xs.length := (sortS_perm xs).length_eq
theorem sortS_nd {xs : List Str} (h : xs.Nodup) : (sortS xs).Nodup := (sortS_perm xs).nodup_iff.mpr h
theorem sortS_of_perm {xs ys : List Str} (h : xs.Perm ys) : sortS xs = sortS ys :=
  List.Perm.eq_of_pairwise (le := fun a b => leS a b = true) (fun a b _ _ h1 h2 => leS_anti h1 h2) (sortS_pw xs) (sortS_pw ys) ((sortS_perm xs).trans (h.trans (sortS_perm ys).symm))
theorem sortS_self {xs : List Str} (h : xs.Pairwise fun a b => leS a b = true) : sortS xs = xs :=
  List.Perm.eq_of_pairwise (le := fun a b => leS a b = true) (fun a b _ _ h1 h2 => leS_anti h1 h2) (sortS_pw xs) h (sortS_perm xs)
theorem cut_to {α : Type} (xs : List α) (k : Nat) : cutL xs none (some (k : Int)) = xs.take k := by
  unfold cutL
  rw [HT.sIx_nat]
  show List.take (min k xs.length - 0) (List.drop 0 xs) = _
  rw [List.drop_zero, Nat.sub_zero, ← List.take_take, List.take_length]
theorem cut_from {α : Type} (xs : List α) (k : Nat) : cutL xs (some (k : Int)) none = xs.drop k := by
  unfold cutL
  rw [HT.sIx_nat]
  show List.take (xs.length - min k xs.length) (List.drop (min k xs.length) xs) = _
  by_cases h : k ≤ xs.length
  · rw [Nat.min_eq_left h, List.take_of_length_le (by simp)]
  · rw [Nat.min_eq_right (by omega), List.drop_length, List.drop_of_length_le (by omega)]; simp
theorem near_ok (hT : Draws T) (dots : List Str) (e : Str) (hl : dots.length < 60) (hpos : 0 < dots.length) (t : Tab) (ht : TabOk dots e t) (r : R) : ∃ t' r', TabOk dots e t' ∧ f__law_near T [.res, dT dO t, .str e] r = some (.tmp (dT dO t'), r') := by
  suffices h : Ev (f__law_near T [.res, dT dO t, .str e] r) (fun v r' => ∃ t', TabOk dots e t' ∧ v = .tmp (dT dO t')) by
    obtain ⟨v, r', e, t, h1, rfl⟩ := h
    exact ⟨t, r', h1, e⟩
  have htl : t.length = dots.length := by rw [← ht.1.length_eq, List.length_map]
  have hs := sort_dT (f := dO) (t := t) (by omega)
  have hsk := sortS_of_perm ht.1
  rw [hsk] at hs
  generalize hso : sortS dots = so at hs
  have hsol : so.length = dots.length := by rw [← hso]; exact sortS_len _
  have hsom : ∀ x, x ∈ so ↔ x ∈ dots := fun x => by rw [← hso]; exact sortS_mem
  obtain ⟨k1, r1, hk1, e1⟩ := hT r 2 (by omega) (by omega)
  unfold f__law_near m__law_near
  generalize hF : mFor _ _ _ = F1
  simp [fnM, fnR, ent, mSeq, mSet, mV, mC, mOp1, mOp2, mChain, mAnd, mOr, mNot, mIf, mArgs, escAll, esc, soft, pk, hard, put, puts, mHards, mPar, mTup, mLst, mDct0, mCall, mRest, mRt, mRtN, mNx, mEx, mIte, mMut, mPut, mIt, bindT, bindTs, isAtom, isLst, isDK, plainAt, wipeE, backE, mFor, mLc, mDc, mWhile, mBk, mCt, mNo, mSl, mNoP, mPt, mJoin, mRng1, mRng2, mZip, mCallK, pickL, mMeth, mProp, mMake, mFld, fnI, fnIR, mDisp, mPairs, o2I, gtI, geI, leI, mStar, mStarT, mStarL, mAugI, mIndex, dict_dT, hs]
  subst hF
  refine mFor_ev (ds := rangeOf (1 + k1) 0) (s1 := ⟨[some ⟨.res, false⟩, some ⟨dT dO t, false⟩, some ⟨.str e, false⟩, some ⟨dT dO t, true⟩, some ⟨.lst (dS so), true⟩, none, none, none], r1⟩) (rng1 (i := 1 + (k1 : Int)) (by simp [fnM, fnR, ent, mSeq, mSet, mV, mC, mOp1, mOp2, mChain, mAnd, mOr, mNot, mIf, mArgs, escAll, esc, soft, pk, hard, put, puts, mHards, mPar, mTup, mLst, mDct0, mCall, mRest, mRt, mRtN, mNx, mEx, mIte, mMut, mPut, mIt, bindT, bindTs, isAtom, isLst, isDK, plainAt, wipeE, backE, mFor, mLc, mDc, mWhile, mBk, mCt, mNo, mSl, mNoP, mPt, mJoin, mRng1, mRng2, mZip, mCallK, pickL, mMeth, mProp, mMake, mFld, fnI, fnIR, mDisp, mPairs, o2I, gtI, geI, leI, mStar, mStarT, mStarL, mAugI, mIndex, e1, addD]) (by omega) (by omega)) ?_
  let I : List D → S R → Prop := fun ds s => ∃ (t' : Tab) (b4 : Bool) (a5 a6 : Option Cell) (r' : R), s = ⟨[some ⟨.res, false⟩, some ⟨dT dO t, false⟩, some ⟨.str e, false⟩, some ⟨dT dO t', true⟩, some ⟨.lst (dS so), b4⟩, a5, a6, none], r'⟩ ∧ TabOk dots e t'
  refine (for_ev I (fun fl s => fl = .nx ∧ I [] s) (fun d ds s hs => ?_) (fun s hs => ⟨rfl, hs⟩) _ _ ⟨t, true, none, none, r1, rfl, ht⟩).mono ?_
  · obtain ⟨t', b4, a5, a6, r', rfl, ht'⟩ := hs
    have htl : t'.length = dots.length := by rw [← ht'.1.length_eq, List.length_map]
    obtain ⟨x, r2, hx, e2⟩ := pickS_ok hT so (by omega) (by omega) r'
    have hx := (hsom x).mp hx
    generalize hL : mLc _ _ _ _ _ = L
    have eL : L ⟨[some ⟨.res, false⟩, some ⟨dT dO t, false⟩, some ⟨.str e, false⟩, some ⟨dT dO t', true⟩, some ⟨.lst (dS so), b4⟩, some ⟨d, false⟩, some ⟨.str x, false⟩, none], r2⟩ = some (.tmp (.lst ((so.filter fun y => !decide (y = x)).map D.str)), ⟨[some ⟨.res, false⟩, some ⟨dT dO t, false⟩, some ⟨.str e, false⟩, some ⟨dT dO t', true⟩, some ⟨.lst (dS so), false⟩, some ⟨d, false⟩, some ⟨.str x, false⟩, none], r2⟩) := by
      rw [← hL]
      refine mLc_enc D.str (fun y => !decide (y = x)) D.str so ?_ (by rfl) (fun y hy => ?_) (by unfold sizeLine; omega)
      · cases b4 <;> simp [fnM, fnR, ent, mSeq, mSet, mV, mC, mOp1, mOp2, mChain, mAnd, mOr, mNot, mIf, mArgs, escAll, esc, soft, pk, hard, put, puts, mHards, mPar, mTup, mLst, mDct0, mCall, mRest, mRt, mRtN, mNx, mEx, mIte, mMut, mPut, mIt, bindT, bindTs, isAtom, isLst, isDK, plainAt, wipeE, backE, mFor, mLc, mDc, mWhile, mBk, mCt, mNo, mSl, mNoP, mPt, mJoin, mRng1, mRng2, mZip, mCallK, pickL, mMeth, mProp, mMake, mFld, fnI, fnIR, mDisp, mPairs, o2I, gtI, geI, leI, mStar, mStarT, mStarL, mAugI, mIndex, itemsOf, dS]
      · simp [fnM, fnR, ent, mSeq, mSet, mV, mC, mOp1, mOp2, mChain, mAnd, mOr, mNot, mIf, mArgs, escAll, esc, soft, pk, hard, put, puts, mHards, mPar, mTup, mLst, mDct0, mCall, mRest, mRt, mRtN, mNx, mEx, mIte, mMut, mPut, mIt, bindT, bindTs, isAtom, isLst, isDK, plainAt, wipeE, backE, mFor, mLc, mDc, mWhile, mBk, mCt, mNo, mSl, mNoP, mPt, mJoin, mRng1, mRng2, mZip, mCallK, pickL, mMeth, mProp, mMake, mFld, fnI, fnIR, mDisp, mPairs, o2I, gtI, geI, leI, mStar, mStarT, mStarL, mAugI, mIndex, ne_str]
    have hfl : (so.filter fun y => !decide (y = x)).length ≤ so.length := List.length_filter_le _ _
    generalize hsp : (so.filter fun y => !decide (y = x)) = sp at eL hfl
    obtain ⟨y, r3, hy, e3⟩ := pickS_ok hT (sp ++ [e]) (by simp) (by simp; omega) r2
    have hmap : dS (sp ++ [e]) = sp.map D.str ++ [.str e] := by simp [dS]
    rw [hmap] at e3
    have hz : sp.length + 1 ≤ sizeLine := by unfold sizeLine; omega
    have hpl : PlaceOk dots e x (some y) := by
      rcases List.mem_append.mp hy with hy | hy
      · rw [← hsp] at hy
        obtain ⟨h5, h6⟩ := List.mem_filter.mp hy
        exact .inr (.inr ⟨y, rfl, (hsom y).mp h5, by simpa using h6⟩)
      · have : y = e := by simpa using hy
        exact .inr (.inl (by rw [this]))
    have hxt : x ∈ t'.map (·.1) := ht'.1.mem_iff.mpr hx
    have hok : TabOk dots e (putT t' x (some y)) := by
      refine ⟨by rw [putT_keys hxt]; exact ht'.1, ?_⟩
      unfold putT
      rw [if_pos hxt]
      intro p hp
      obtain ⟨q, hq, rfl⟩ := List.mem_map.mp hp
      by_cases h : q.1 = x
      · rw [if_pos h]; show PlaceOk dots e q.1 (some y); rw [h]; exact hpl
      · rw [if_neg h]; exact ht'.2 q hq
    have fin : ∀ b4 a5 a6, I ds ⟨[some ⟨.res, false⟩, some ⟨dT dO t, false⟩, some ⟨.str e, false⟩, some ⟨dT dO (putT t' x (some y)), true⟩, some ⟨.lst (dS so), b4⟩, a5, a6, none], r3⟩ := fun b4 a5 a6 => ⟨_, b4, a5, a6, r3, rfl, hok⟩
    cases b4 <;> (simp [fnM, fnR, ent, mSeq, mSet, mV, mC, mOp1, mOp2, mChain, mAnd, mOr, mNot, mIf, mArgs, escAll, esc, soft, pk, hard, put, puts, mHards, mPar, mTup, mLst, mDct0, mCall, mRest, mRt, mRtN, mNx, mEx, mIte, mMut, mPut, mIt, bindT, bindTs, isAtom, isLst, isDK, plainAt, wipeE, backE, mFor, mLc, mDc, mWhile, mBk, mCt, mNo, mSl, mNoP, mPt, mJoin, mRng1, mRng2, mZip, mCallK, pickL, mMeth, mProp, mMake, mFld, fnI, fnIR, mDisp, mPairs, o2I, gtI, geI, leI, mStar, mStarT, mStarL, mAugI, mIndex, e2, eL, addD, hz, e3, put_some t' x y (by omega)]; exact fin _ _ _)
  · rintro fl s ⟨rfl, t', b4, a5, a6, r', rfl, ht'⟩
    simp
    exact ⟨t', ht', rfl⟩
def dP (p : Tab × Tab) : D := .tup [dT dO p.1, dT dO p.2]
theorem pair_ok (hT : Draws T) (dots : List Str) (e : Str) (hl : dots.length < 60) (hpos : 0 < dots.length) (hn : dots.Nodup) (he : e ∉ dots) (r : R) : ∃ t1 t2 r', TabOk dots e t1 ∧ TabOk dots e t2 ∧ f__law_pair T [.res, .lst (dS dots), .str e] r = some (.sh (.tup [dT dO t1, dT dO t2]), r') := by
  obtain ⟨k, r1, hk, e1⟩ := hT r 6 (by omega) (by omega)
  by_cases h3 : k < 3
  · obtain ⟨t1, r2, h1, e2⟩ := tree_ok hT dots e (by omega) hn he r1
    obtain ⟨t2, r3, h2, e3⟩ := tree_ok hT dots e (by omega) hn he r2
    refine ⟨t1, t2, r3, h1, h2, ?_⟩
    have h3' : (k : Int) < 3 := by omega
    simp [f__law_pair, m__law_pair, fnM, fnR, ent, mSeq, mSet, mV, mC, mOp1, mOp2, mChain, mAnd, mOr, mNot, mIf, mArgs, escAll, esc, soft, pk, hard, put, puts, mHards, mPar, mTup, mLst, mDct0, mCall, mRest, mRt, mRtN, mNx, mEx, mIte, mMut, mPut, mIt, bindT, bindTs, isAtom, isLst, isDK, plainAt, wipeE, backE, mFor, mLc, mDc, mWhile, mBk, mCt, mNo, mSl, mNoP, mPt, mJoin, mRng1, mRng2, mZip, mCallK, pickL, mMeth, mProp, mMake, mFld, fnI, fnIR, mDisp, mPairs, o2I, gtI, geI, leI, mStar, mStarT, mStarL, mAugI, mIndex, e1, ltD, h3', e2, e3]
  · by_cases h4 : k = 3
    · subst h4
      obtain ⟨t1, r2, h1, e2⟩ := path_ok hT dots e (by omega) hn he r1
      obtain ⟨t2, r3, h2, e3⟩ := path_ok hT dots e (by omega) hn he r2
      refine ⟨t1, t2, r3, h1, h2, ?_⟩
      simp [f__law_pair, m__law_pair, fnM, fnR, ent, mSeq, mSet, mV, mC, mOp1, mOp2, mChain, mAnd, mOr, mNot, mIf, mArgs, escAll, esc, soft, pk, hard, put, puts, mHards, mPar, mTup, mLst, mDct0, mCall, mRest, mRt, mRtN, mNx, mEx, mIte, mMut, mPut, mIt, bindT, bindTs, isAtom, isLst, isDK, plainAt, wipeE, backE, mFor, mLc, mDc, mWhile, mBk, mCt, mNo, mSl, mNoP, mPt, mJoin, mRng1, mRng2, mZip, mCallK, pickL, mMeth, mProp, mMake, mFld, fnI, fnIR, mDisp, mPairs, o2I, gtI, geI, leI, mStar, mStarT, mStarL, mAugI, mIndex, e1, ltD, eq_int', e2, e3]
    · by_cases h5 : k = 4
      · subst h5
        obtain ⟨t1, r2, h1, e2⟩ := tree_ok hT dots e (by omega) hn he r1
        obtain ⟨t2, r3, h2, e3⟩ := near_ok hT dots e hl hpos t1 h1 r2
        refine ⟨t1, t2, r3, h1, h2, ?_⟩
        simp [f__law_pair, m__law_pair, fnM, fnR, ent, mSeq, mSet, mV, mC, mOp1, mOp2, mChain, mAnd, mOr, mNot, mIf, mArgs, escAll, esc, soft, pk, hard, put, puts, mHards, mPar, mTup, mLst, mDct0, mCall, mRest, mRt, mRtN, mNx, mEx, mIte, mMut, mPut, mIt, bindT, bindTs, isAtom, isLst, isDK, plainAt, wipeE, backE, mFor, mLc, mDc, mWhile, mBk, mCt, mNo, mSl, mNoP, mPt, mJoin, mRng1, mRng2, mZip, mCallK, pickL, mMeth, mProp, mMake, mFld, fnI, fnIR, mDisp, mPairs, o2I, gtI, geI, leI, mStar, mStarT, mStarL, mAugI, mIndex, e1, ltD, eq_int', e2, e3]
      · have h6 : k = 5 := by omega
        subst h6
        obtain ⟨t1, r2, h1, e2⟩ := wild_ok hT dots e (by omega) hn he r1
        obtain ⟨t2, r3, h2, e3⟩ := wild_ok hT dots e (by omega) hn he r2
        refine ⟨t1, t2, r3, h1, h2, ?_⟩
        simp [f__law_pair, m__law_pair, fnM, fnR, ent, mSeq, mSet, mV, mC, mOp1, mOp2, mChain, mAnd, mOr, mNot, mIf, mArgs, escAll, esc, soft, pk, hard, put, puts, mHards, mPar, mTup, mLst, mDct0, mCall, mRest, mRt, mRtN, mNx, mEx, mIte, mMut, mPut, mIt, bindT, bindTs, isAtom, isLst, isDK, plainAt, wipeE, backE, mFor, mLc, mDc, mWhile, mBk, mCt, mNo, mSl, mNoP, mPt, mJoin, mRng1, mRng2, mZip, mCallK, pickL, mMeth, mProp, mMake, mFld, fnI, fnIR, mDisp, mPairs, o2I, gtI, geI, leI, mStar, mStarT, mStarL, mAugI, mIndex, e1, ltD, eq_int', e2, e3]
end
end RW
namespace RW
open PySem L2
/-! ### models of nets -/
structure Mod where
  rows : List (Str × (Tab × Tab))
  dots : List Str
  sources : List Str
  posts : List Str
def dMod (M : Mod) : D := .dct false [(.str "tables", dT dP M.rows), (.str "dots", .lst (dS M.dots)), (.str "sources", .lst (dS M.sources)), (.str "posts", .lst (dS M.posts))]
def Up (xs : List Str) : Prop := xs.Pairwise fun a b => leS a b = true
structure ModW (M : Mod) : Prop where
  r1 : 0 < M.rows.length
  r2 : M.rows.length ≤ 2
  rn : (M.rows.map (·.1)).Nodup
  rname : ∀ p ∈ M.rows, isName p.1
  rdot : ∀ p ∈ M.rows, p.1 ∉ M.dots
  tab : ∀ p ∈ M.rows, TabOk M.dots p.1 p.2.1 ∧ TabOk M.dots p.1 p.2.2
  d1 : 0 < M.dots.length
  d2 : M.dots.length ≤ 6
  dn : M.dots.Nodup
  du : Up M.dots
  dname : ∀ x ∈ M.dots, isName x
  sn : M.sources.Nodup
  su : Up M.sources
  ssub : ∀ x ∈ M.sources, x ∈ M.dots
  pn : M.posts.Nodup
  p2 : M.posts.length ≤ 2
  psub : ∀ x ∈ M.posts, x ∈ M.dots
structure ModOk (M : Mod) : Prop extends ModW M where
  ru : Up (M.rows.map (·.1))
section
variable {R : Type} {T : Fm R}
theorem put_pair (rs : List (Str × (Tab × Tab))) (k : Str) (t1 t2 : Tab) (h : rs.length < 1000) : putD (dT dP rs) (.str k) (.tup [dT dO t1, dT dO t2]) = some (dT dP (putT rs k (t1, t2))) := putD_dT dP rs k (t1, t2) (by unfold sizeLine; omega)
theorem dS_take (xs : List Str) (k : Nat) : (dS xs).take k = dS (xs.take k) := by simp [dS, List.map_take]
theorem dS_drop (xs : List Str) (k : Nat) : (dS xs).drop k = dS (xs.drop k) := by simp [dS, List.map_drop]
theorem model_ok (hT : Draws T) (ne nm : Nat) (h1 : 0 < ne) (h2 : ne ≤ 2) (h3 : 0 < nm) (h4 : nm ≤ 6) (r : R) : ∃ M r', ModOk M ∧ f__law_model T [.res, .int ne, .int nm] r = some (.tmp (dMod M), r') := by
  suffices h : Ev (f__law_model T [.res, .int ne, .int nm] r) (fun v r' => ∃ M, ModOk M ∧ v = .tmp (dMod M)) by
    obtain ⟨v, r', e, M, h1, rfl⟩ := h
    exact ⟨M, r', h1, e⟩
  obtain ⟨k1, r1, hk1, e1⟩ := hT r ne (by omega) (by omega)
  obtain ⟨k2, r2, hk2, e2⟩ := hT r1 nm (by omega) (by omega)
  obtain ⟨names, r3, hnl, hnn, hnm, e3⟩ := words_ok hT (1 + k1 + (1 + k2)) (by omega) r2
  let dots := sortS (names.drop (1 + k1))
  let ends := sortS (names.take (1 + k1))
  have hdl : dots.length = 1 + k2 := by show (sortS _).length = _; rw [sortS_len, List.length_drop]; omega
  have hel : ends.length = 1 + k1 := by show (sortS _).length = _; rw [sortS_len, List.length_take]; omega
  have hdn : dots.Nodup := sortS_nd (hnn.sublist (List.drop_sublist _ _))
  have hen : ends.Nodup := sortS_nd (hnn.sublist (List.take_sublist _ _))
  have hdm : ∀ x ∈ dots, isName x := fun x hx => hnm x (List.mem_of_mem_drop (sortS_mem.mp hx))
  have hem : ∀ x ∈ ends, isName x := fun x hx => hnm x (List.mem_of_mem_take (sortS_mem.mp hx))
  have hed : ∀ x ∈ ends, x ∉ dots := fun x hx hx2 => by
    have h5 := sortS_mem.mp hx
    have h6 := sortS_mem.mp hx2
    have := hnn
    rw [← List.take_append_drop (1 + k1) names] at this
    exact (List.nodup_append.mp this).2.2 x h5 x h6 rfl
  have s1 : sortF (.lst ((dS names).drop (1 + k1))) = some (.tmp (.lst (dS dots))) := by
    rw [dS_drop]; exact sort_dS (by rw [List.length_drop]; omega)
  have s2 : sortF (.lst ((dS names).take (1 + k1))) = some (.tmp (.lst (dS ends))) := by
    rw [dS_take]; exact sort_dS (by rw [List.length_take]; omega)
  have c1 : cutL (dS names) (some (1 + (k1 : Int))) none = (dS names).drop (1 + k1) := by
    have := cut_from (dS names) (1 + k1)
    rwa [show ((1 + k1 : Nat) : Int) = 1 + (k1 : Int) by omega] at this
  have c2 : cutL (dS names) none (some (1 + (k1 : Int))) = (dS names).take (1 + k1) := by
    have := cut_to (dS names) (1 + k1)
    rwa [show ((1 + k1 : Nat) : Int) = 1 + (k1 : Int) by omega] at this
  have e3 : f__law_words T [.res, .int (1 + (k1 : Int) + (1 + (k2 : Int)))] r2 = some (.tmp (.lst (dS names)), r3) := by
    rwa [show ((1 + k1 + (1 + k2) : Nat) : Int) = 1 + (k1 : Int) + (1 + (k2 : Int)) by omega] at e3
  have hdu : Up dots := sortS_pw _
  have heu : Up ends := sortS_pw _
  clear_value dots ends
  unfold f__law_model m__law_model
  generalize hF : mFor _ _ _ = F1
  generalize hB : mSeq (mSet 9 _) _ = TAIL
  simp [fnM, fnR, ent, mSeq, mSet, mV, mC, mOp1, mOp2, mChain, mAnd, mOr, mNot, mIf, mArgs, escAll, esc, soft, pk, hard, put, puts, mHards, mPar, mTup, mLst, mDct0, mCall, mRest, mRt, mRtN, mNx, mEx, mIte, mMut, mPut, mIt, bindT, bindTs, isAtom, isLst, isDK, plainAt, wipeE, backE, mFor, mLc, mDc, mWhile, mBk, mCt, mNo, mSl, mNoP, mPt, mJoin, mRng1, mRng2, mZip, mCallK, pickL, mMeth, mProp, mMake, mFld, fnI, fnIR, mDisp, mPairs, o2I, gtI, geI, leI, mStar, mStarT, mStarL, mAugI, mIndex, e1, e2, addD, e3, cutD, c1, s1]
  subst hF
  refine mFor_ev (ds := dS ends) (s1 := ⟨[some ⟨.res, false⟩, some ⟨.int ne, false⟩, some ⟨.int nm, false⟩, some ⟨.int (1 + (k1 : Int)), false⟩, some ⟨.int (1 + (k2 : Int)), false⟩, some ⟨.lst (dS names), true⟩, some ⟨.lst (dS dots), true⟩, some ⟨.dct false [], true⟩, none, none, none], r3⟩) (by simp [fnM, fnR, ent, mSeq, mSet, mV, mC, mOp1, mOp2, mChain, mAnd, mOr, mNot, mIf, mArgs, escAll, esc, soft, pk, hard, put, puts, mHards, mPar, mTup, mLst, mDct0, mCall, mRest, mRt, mRtN, mNx, mEx, mIte, mMut, mPut, mIt, bindT, bindTs, isAtom, isLst, isDK, plainAt, wipeE, backE, mFor, mLc, mDc, mWhile, mBk, mCt, mNo, mSl, mNoP, mPt, mJoin, mRng1, mRng2, mZip, mCallK, pickL, mMeth, mProp, mMake, mFld, fnI, fnIR, mDisp, mPairs, o2I, gtI, geI, leI, mStar, mStarT, mStarL, mAugI, mIndex, cutD, c2, s2, itemsOf]) ?_
  let I : List D → S R → Prop := fun ds s => ∃ (pre post : List Str) (rows : List (Str × (Tab × Tab))) (b6 : Bool) (a8 : Option Cell) (r' : R), ds = dS post ∧ s = ⟨[some ⟨.res, false⟩, some ⟨.int ne, false⟩, some ⟨.int nm, false⟩, some ⟨.int (1 + (k1 : Int)), false⟩, some ⟨.int (1 + (k2 : Int)), false⟩, some ⟨.lst (dS names), true⟩, some ⟨.lst (dS dots), b6⟩, some ⟨dT dP rows, true⟩, a8, none, none], r'⟩ ∧ pre ++ post = ends ∧ rows.map (·.1) = pre ∧ ∀ p ∈ rows, TabOk dots p.1 p.2.1 ∧ TabOk dots p.1 p.2.2
  refine (for_ev I (fun fl s => fl = .nx ∧ I [] s) (fun d ds s hs => ?_) (fun s hs => ⟨rfl, hs⟩) (dS ends) _ ⟨[], ends, [], true, none, r3, rfl, rfl, rfl, rfl, by simp⟩).mono ?_
  · obtain ⟨pre, post, rows, b6, a8, r', hd, rfl, g1, g2, g3⟩ := hs
    match post, hd with
    | x :: post, hd =>
      obtain ⟨rfl, rfl⟩ : d = .str x ∧ ds = dS post := List.cons.inj hd
      have hxe : x ∈ ends := by rw [← g1]; simp
      have hxp : x ∉ pre := by
        rw [← g1] at hen
        have := (List.nodup_append.mp hen).2.2
        exact fun z => this x z x List.mem_cons_self rfl
      have hlen : pre.length + (post.length + 1) = ends.length := by
        rw [← g1, List.length_append, List.length_cons]
      have htl : rows.length = pre.length := by rw [← g2, List.length_map]
      obtain ⟨t1, t2, r4, ht1, ht2, e4⟩ := pair_ok hT dots x (by omega) (by omega) hdn (hed x hxe) r'
      have fin : I (dS post) ⟨[some ⟨.res, false⟩, some ⟨.int ne, false⟩, some ⟨.int nm, false⟩, some ⟨.int (1 + (k1 : Int)), false⟩, some ⟨.int (1 + (k2 : Int)), false⟩, some ⟨.lst (dS names), true⟩, some ⟨.lst (dS dots), false⟩, some ⟨dT dP (putT rows x (t1, t2)), true⟩, some ⟨.str x, false⟩, none, none], r4⟩ := by
        refine ⟨pre ++ [x], post, _, _, _, r4, rfl, rfl, by rw [← g1]; simp, ?_, ?_⟩
        · rw [putT_new (by rw [g2]; exact hxp), List.map_append, g2]; rfl
        · rw [putT_new (by rw [g2]; exact hxp)]
          intro p hp'
          rcases List.mem_append.mp hp' with hp' | hp'
          · exact g3 p hp'
          · have : p = (x, (t1, t2)) := by simpa using hp'
            subst this
            exact ⟨ht1, ht2⟩
      cases b6 <;> (simp [fnM, fnR, ent, mSeq, mSet, mV, mC, mOp1, mOp2, mChain, mAnd, mOr, mNot, mIf, mArgs, escAll, esc, soft, pk, hard, put, puts, mHards, mPar, mTup, mLst, mDct0, mCall, mRest, mRt, mRtN, mNx, mEx, mIte, mMut, mPut, mIt, bindT, bindTs, isAtom, isLst, isDK, plainAt, wipeE, backE, mFor, mLc, mDc, mWhile, mBk, mCt, mNo, mSl, mNoP, mPt, mJoin, mRng1, mRng2, mZip, mCallK, pickL, mMeth, mProp, mMake, mFld, fnI, fnIR, mDisp, mPairs, o2I, gtI, geI, leI, mStar, mStarT, mStarL, mAugI, mIndex, e4, put_pair rows x t1 t2 (by omega)]; exact fin)
  · rintro fl s ⟨rfl, pre, post, rows, b6, a8, r', hd, rfl, g1, g2, g3⟩
    have : post = [] := by
      cases post with
      | nil => rfl
      | cons => cases hd
    subst this
    simp only [List.append_nil] at g1
    subst g1
    subst hB
    have hrl : rows.length = pre.length := by rw [← g2, List.length_map]
    obtain ⟨ys, r4, hp1, e4⟩ := mixedS_ok hT dots (by omega) r'
    obtain ⟨k5, r5, hk5, e5⟩ := hT r4 ((if (1 + (k2 : Int)) < 3 then 1 + (k2 : Int) else 3) + 1) (by split <;> omega) (by split <;> omega)
    obtain ⟨zs, r6, hp2, e6⟩ := mixedS_ok hT dots (by omega) r5
    obtain ⟨d7, r7, hd7, e7⟩ := pick_ok hT [.int 0, .int 0, .int 1, .int 1, .int 2] (by decide) (by decide) r6
    obtain ⟨m, hm, rfl⟩ : ∃ m : Nat, m ≤ 2 ∧ d7 = .int m := by
      simp only [List.mem_cons, List.not_mem_nil, or_false] at hd7
      rcases hd7 with rfl | rfl | rfl | rfl | rfl
      · exact ⟨0, by omega, rfl⟩
      · exact ⟨0, by omega, rfl⟩
      · exact ⟨1, by omega, rfl⟩
      · exact ⟨1, by omega, rfl⟩
      · exact ⟨2, by omega, rfl⟩
    have c4 : cutL (dS ys) none (some (k5 : Int)) = dS (ys.take k5) := by rw [cut_to, dS_take]
    have c6 : cutL (dS zs) none (some (m : Int)) = dS (zs.take m) := by rw [cut_to, dS_take]
    have s4 : sortF (.lst (dS (ys.take k5))) = some (.tmp (.lst (dS (sortS (ys.take k5))))) := sort_dS (by have := hp1.length_eq; rw [List.length_take]; omega)
    have hdisp : ∀ a b c d : D, mergeE [] [((Sum.inr "tables" : Key), a), (Sum.inr "dots", b), (Sum.inr "sources", c), (Sum.inr "posts", d)] = [(.str "tables", a), (.str "dots", b), (.str "sources", c), (.str "posts", d)] := fun a b c d => rfl
    simp only [mergeE, List.foldl_cons, List.foldl_nil] at hdisp
    have fin : ModOk ⟨rows, dots, sortS (ys.take k5), zs.take m⟩ := by
      refine ⟨⟨by show 0 < rows.length; omega, by show rows.length ≤ 2; omega, by show (rows.map _).Nodup; rw [g2]; exact hen, fun p hp => hem p.1 (by rw [← g2]; exact List.mem_map_of_mem (f := (·.1)) hp), fun p hp => hed p.1 (by rw [← g2]; exact List.mem_map_of_mem (f := (·.1)) hp), g3, by show 0 < dots.length; omega, by show dots.length ≤ 6; omega, hdn, hdu, hdm, ?_, sortS_pw _, ?_, ?_, ?_, ?_⟩, by show Up (rows.map _); rw [g2]; exact heu⟩
      · exact sortS_nd ((hp1.nodup_iff.mpr hdn).sublist (List.take_sublist _ _))
      · exact fun x hx => hp1.mem_iff.mp (List.mem_of_mem_take (sortS_mem.mp hx))
      · exact (hp2.nodup_iff.mpr hdn).sublist (List.take_sublist _ _)
      · show (zs.take m).length ≤ 2
        rw [List.length_take]; omega
      · exact fun x hx => hp2.mem_iff.mp (List.mem_of_mem_take hx)
    cases b6 <;> (simp [fnM, fnR, ent, mSeq, mSet, mV, mC, mOp1, mOp2, mChain, mAnd, mOr, mNot, mIf, mArgs, escAll, esc, soft, pk, hard, put, puts, mHards, mPar, mTup, mLst, mDct0, mCall, mRest, mRt, mRtN, mNx, mEx, mIte, mMut, mPut, mIt, bindT, bindTs, isAtom, isLst, isDK, plainAt, wipeE, backE, mFor, mLc, mDc, mWhile, mBk, mCt, mNo, mSl, mNoP, mPt, mJoin, mRng1, mRng2, mZip, mCallK, pickL, mMeth, mProp, mMake, mFld, fnI, fnIR, mDisp, mPairs, o2I, gtI, geI, leI, mStar, mStarT, mStarL, mAugI, mIndex, e4, min2, e5, cutD, c4, s4, addD, e6, e7, c6, kOf, hdisp, keyD]; exact ⟨_, fin, rfl⟩)
end
end RW
namespace RW
open PySem L2
section
variable {R : Type} {T : Fm R}
/-! ### nets are made -/
theorem len_lst (xs : List D) : lenD (.lst xs) = some (.sh (.int xs.length)) := rfl
theorem len_tup (xs : List D) : lenD (.tup xs) = some (.sh (.int xs.length)) := rfl
theorem isi_str (x : Str) : isiD "str" (.str x) = some (.sh (.bl true)) := rfl
theorem isi_dict {α : Type} (f : α → D) (t : List (Str × α)) : isiD "dict" (dT f t) = some (.sh (.bl true)) := rfl
theorem isi_tup (ds : List D) : isiD "tuple" (.tup ds) = some (.sh (.bl true)) := rfl
theorem in_letters (c : Nat) : inB (.str (ch c)) (.str "abcdefghijklmnopqrstuvwxyz") = some (decide (c ∈ lets)) := by
  have e : (ch c).cps.toList = [c] := rfl
  simp only [inB, e, lets_eq]
theorem len_str {x : Str} (h : isName x) : lenD (.str x) = some (.sh (.int x.cps.size)) := by
  have : x.length ≤ sizeLine := by have := h.2.1; show x.cps.size ≤ _; unfold sizeLine; omega
  simp only [lenD, this, if_true]; rfl
theorem all_true {α : Type} (xs : List α) : allD (.lst (xs.map fun _ => .bl true)) = some (.sh (.bl true)) := by
  have := all_bl (xs.map fun _ => true)
  rw [List.map_map] at this
  have e : (xs.map fun _ => true).all id = true := by simp
  rw [e] at this
  exact this
theorem is_name_ok {x : Str} (h : isName x) (r : R) : f_is_name T [.str x] r = some (.sh (.bl true), r) := by
  unfold f_is_name m_is_name
  generalize hL : mLc _ _ _ _ _ = L
  have eL : L ⟨[some ⟨.str x, false⟩, none], r⟩ = some (.tmp (.lst (x.cps.toList.map fun c => .bl (decide (c ∈ lets)))), ⟨[some ⟨.str x, false⟩, none], r⟩) := by
    rw [← hL]
    refine mLc_all (fun c => .str (ch c)) (fun c => .bl (decide (c ∈ lets))) x.cps.toList ?_ (by rfl) (fun c hc => ?_) (by rw [← size_eq]; have := h.2.1; unfold sizeLine; omega)
    · simp [fnM, fnR, ent, mSeq, mSet, mV, mC, mOp1, mOp2, mChain, mAnd, mOr, mNot, mIf, mArgs, escAll, esc, soft, pk, hard, put, puts, mHards, mPar, mTup, mLst, mDct0, mCall, mRest, mRt, mRtN, mNx, mEx, mIte, mMut, mPut, mIt, bindT, bindTs, isAtom, isLst, isDK, plainAt, wipeE, backE, mFor, mLc, mDc, mWhile, mBk, mCt, mNo, mSl, mNoP, mPt, mJoin, mRng1, mRng2, mZip, mCallK, pickL, mMeth, mProp, mMake, mFld, fnI, fnIR, mDisp, mPairs, o2I, gtI, geI, leI, mStar, mStarT, mStarL, mAugI, mIndex, itemsOf, ch]
    · simp [fnM, fnR, ent, mSeq, mSet, mV, mC, mOp1, mOp2, mChain, mAnd, mOr, mNot, mIf, mArgs, escAll, esc, soft, pk, hard, put, puts, mHards, mPar, mTup, mLst, mDct0, mCall, mRest, mRt, mRtN, mNx, mEx, mIte, mMut, mPut, mIt, bindT, bindTs, isAtom, isLst, isDK, plainAt, wipeE, backE, mFor, mLc, mDc, mWhile, mBk, mCt, mNo, mSl, mNoP, mPt, mJoin, mRng1, mRng2, mZip, mCallK, pickL, mMeth, mProp, mMake, mFld, fnI, fnIR, mDisp, mPairs, o2I, gtI, geI, leI, mStar, mStarT, mStarL, mAugI, mIndex, inD, in_letters]
  have hall : allD (.lst (x.cps.toList.map fun c => .bl (decide (c ∈ lets)))) = some (.sh (.bl true)) := by
    have := all_bl (x.cps.toList.map fun c => decide (c ∈ lets))
    rw [List.map_map] at this
    have e : (x.cps.toList.map fun c => decide (c ∈ lets)).all id = true := by
      rw [List.all_map, List.all_eq_true]
      intro c hc
      exact decide_eq_true (h.2.2 c hc)
    rw [e] at this
    exact this
  have h1 := h.1
  have h2 := h.2.1
  have h1' : (1 : Int) ≤ (x.cps.size : Int) := by omega
  have h2' : (x.cps.size : Int) ≤ 6 := by omega
  simp [fnM, fnR, ent, mSeq, mSet, mV, mC, mOp1, mOp2, mChain, mAnd, mOr, mNot, mIf, mArgs, escAll, esc, soft, pk, hard, put, puts, mHards, mPar, mTup, mLst, mDct0, mCall, mRest, mRt, mRtN, mNx, mEx, mIte, mMut, mPut, mIt, bindT, bindTs, isAtom, isLst, isDK, plainAt, wipeE, backE, mFor, mLc, mDc, mWhile, mBk, mCt, mNo, mSl, mNoP, mPt, mJoin, mRng1, mRng2, mZip, mCallK, pickL, mMeth, mProp, mMake, mFld, fnI, fnIR, mDisp, mPairs, o2I, gtI, geI, leI, mStar, mStarT, mStarL, mAugI, mIndex, isi_str, len_str h, h1', h2', eL, hall]
theorem are_names_ok {α : Type} (f : α → D) (t : List (Str × α)) (m : Nat) (h0 : 1 ≤ t.length) (h1 : t.length ≤ m) (hm : m < 100) (hn : ∀ x ∈ t.map (·.1), isName x) (r : R) : f_are_names T [dT f t, .int m] r = some (.sh (.bl true), r) := by
  unfold f_are_names m_are_names
  generalize hL : mLc _ _ _ _ _ = L
  have eL : L ⟨[some ⟨dT f t, false⟩, some ⟨.int m, false⟩, none], r⟩ = some (.tmp (.lst (t.map fun _ => .bl true)), ⟨[some ⟨dT f t, false⟩, some ⟨.int m, false⟩, none], r⟩) := by
    rw [← hL]
    refine mLc_all (fun p : Str × α => .str p.1) (fun _ => .bl true) t ?_ (by rfl) (fun x hx => ?_) (by unfold sizeLine; omega)
    · simp [fnM, fnR, ent, mSeq, mSet, mV, mC, mOp1, mOp2, mChain, mAnd, mOr, mNot, mIf, mArgs, escAll, esc, soft, pk, hard, put, puts, mHards, mPar, mTup, mLst, mDct0, mCall, mRest, mRt, mRtN, mNx, mEx, mIte, mMut, mPut, mIt, bindT, bindTs, isAtom, isLst, isDK, plainAt, wipeE, backE, mFor, mLc, mDc, mWhile, mBk, mCt, mNo, mSl, mNoP, mPt, mJoin, mRng1, mRng2, mZip, mCallK, pickL, mMeth, mProp, mMake, mFld, fnI, fnIR, mDisp, mPairs, o2I, gtI, geI, leI, mStar, mStarT, mStarL, mAugI, mIndex, items_dT, dS, Function.comp_def]
    · simp [fnM, fnR, ent, mSeq, mSet, mV, mC, mOp1, mOp2, mChain, mAnd, mOr, mNot, mIf, mArgs, escAll, esc, soft, pk, hard, put, puts, mHards, mPar, mTup, mLst, mDct0, mCall, mRest, mRt, mRtN, mNx, mEx, mIte, mMut, mPut, mIt, bindT, bindTs, isAtom, isLst, isDK, plainAt, wipeE, backE, mFor, mLc, mDc, mWhile, mBk, mCt, mNo, mSl, mNoP, mPt, mJoin, mRng1, mRng2, mZip, mCallK, pickL, mMeth, mProp, mMake, mFld, fnI, fnIR, mDisp, mPairs, o2I, gtI, geI, leI, mStar, mStarT, mStarL, mAugI, mIndex, is_name_ok (hn x.1 (List.mem_map_of_mem (f := (·.1)) hx))]
  have hall := all_true t
  have h1' : (1 : Int) ≤ (t.length : Int) := by omega
  have h2' : (t.length : Int) ≤ (m : Int) := by omega
  simp [fnM, fnR, ent, mSeq, mSet, mV, mC, mOp1, mOp2, mChain, mAnd, mOr, mNot, mIf, mArgs, escAll, esc, soft, pk, hard, put, puts, mHards, mPar, mTup, mLst, mDct0, mCall, mRest, mRt, mRtN, mNx, mEx, mIte, mMut, mPut, mIt, bindT, bindTs, isAtom, isLst, isDK, plainAt, wipeE, backE, mFor, mLc, mDc, mWhile, mBk, mCt, mNo, mSl, mNoP, mPt, mJoin, mRng1, mRng2, mZip, mCallK, pickL, mMeth, mProp, mMake, mFld, fnI, fnIR, mDisp, mPairs, o2I, gtI, geI, leI, mStar, mStarT, mStarL, mAugI, mIndex, isi_dict, len_dT, h1', h2', eL, hall]
theorem min_dT {α : Type} (f : α → D) {t : List (Str × α)} (h : 0 < t.length) : ∃ k y, t.lookup k = some y ∧ (k, y) ∈ t ∧ minF (dT f t) = some (.sh (.str k)) := by
  have hne : t.map (·.1) ≠ [] := by intro z; have := congrArg List.length z; simp at this; rw [this] at h; simp at h
  have hm := minS_mem hne
  obtain ⟨y, hy⟩ := Option.isSome_iff_exists.mp (look_some.mp hm)
  refine ⟨_, y, hy, ?_, ?_⟩
  · clear hne h
    induction t with
    | nil => cases hy
    | cons p t ih => exact PySem.mem_of_lookup hy
  · unfold dT
    simp only [minF, min1, keysStr_dT, Option.bind, hne, if_false]
theorem idx_tup2_0 (a b : D) : idxD (.tup [a, b]) (.int 0) = some (.sh a) := rfl
theorem idx_tup2_1 (a b : D) : idxD (.tup [a, b]) (.int 1) = some (.sh b) := rfl
theorem tab_len {dots : List Str} {e : Str} {t : Tab} (h : TabOk dots e t) : t.length = dots.length := by rw [← h.1.length_eq, List.length_map]
theorem nodes_of_ok {M : Mod} (hM : ModW M) (r : R) : f_nodes_of T [dT dP M.rows] r = some (.tmp (.lst (dS M.dots)), r) := by
  obtain ⟨k, p, hk, hkp, hmin⟩ := min_dT dP hM.r1
  obtain ⟨ht1, ht2⟩ := hM.tab _ hkp
  have hi := idx_dT dP hk
  have hi : idxD (dT dP M.rows) (.str k) = some (.sh (.tup [dT dO p.1, dT dO p.2])) := hi
  have hl : p.1.length = M.dots.length := tab_len ht1
  have d1 := hM.d1
  have d2 := hM.d2
  have han := are_names_ok (T := T) dO p.1 6 (by omega) (by omega) (by omega) (fun x hx => hM.dname x (ht1.1.mem_iff.mp hx)) r
  rw [show ((6 : Nat) : Int) = 6 from rfl] at han
  have hs := sort_dT (f := dO) (t := p.1) (by omega)
  rw [sortS_of_perm ht1.1, sortS_self hM.du] at hs
  unfold f_nodes_of m_nodes_of
  simp [fnM, fnR, ent, mSeq, mSet, mV, mC, mOp1, mOp2, mChain, mAnd, mOr, mNot, mIf, mArgs, escAll, esc, soft, pk, hard, put, puts, mHards, mPar, mTup, mLst, mDct0, mCall, mRest, mRt, mRtN, mNx, mEx, mIte, mMut, mPut, mIt, bindT, bindTs, isAtom, isLst, isDK, plainAt, wipeE, backE, mFor, mLc, mDc, mWhile, mBk, mCt, mNo, mSl, mNoP, mPt, mJoin, mRng1, mRng2, mZip, mCallK, pickL, mMeth, mProp, mMake, mFld, fnI, fnIR, mDisp, mPairs, o2I, gtI, geI, leI, mStar, mStarT, mStarL, mAugI, mIndex, hmin, hi, isi_tup, len_tup, ne_int', idx_tup2_0, han, hs]
theorem is_place_ok {dots : List Str} {e x : Str} {y : Option Str} (h : PlaceOk dots e x y) (r : R) : f_is_place T [.lst (dS dots), .str e, .str x, dO y] r = some (.sh (.bl true), r) := by
  unfold f_is_place m_is_place
  rcases h with rfl | rfl | ⟨z, rfl, hz, hne⟩
  · simp [fnM, fnR, ent, mSeq, mSet, mV, mC, mOp1, mOp2, mChain, mAnd, mOr, mNot, mIf, mArgs, escAll, esc, soft, pk, hard, put, puts, mHards, mPar, mTup, mLst, mDct0, mCall, mRest, mRt, mRtN, mNx, mEx, mIte, mMut, mPut, mIt, bindT, bindTs, isAtom, isLst, isDK, plainAt, wipeE, backE, mFor, mLc, mDc, mWhile, mBk, mCt, mNo, mSl, mNoP, mPt, mJoin, mRng1, mRng2, mZip, mCallK, pickL, mMeth, mProp, mMake, mFld, fnI, fnIR, mDisp, mPairs, o2I, gtI, geI, leI, mStar, mStarT, mStarL, mAugI, mIndex, dO, isN]
  · simp [fnM, fnR, ent, mSeq, mSet, mV, mC, mOp1, mOp2, mChain, mAnd, mOr, mNot, mIf, mArgs, escAll, esc, soft, pk, hard, put, puts, mHards, mPar, mTup, mLst, mDct0, mCall, mRest, mRt, mRtN, mNx, mEx, mIte, mMut, mPut, mIt, bindT, bindTs, isAtom, isLst, isDK, plainAt, wipeE, backE, mFor, mLc, mDc, mWhile, mBk, mCt, mNo, mSl, mNoP, mPt, mJoin, mRng1, mRng2, mZip, mCallK, pickL, mMeth, mProp, mMake, mFld, fnI, fnIR, mDisp, mPairs, o2I, gtI, geI, leI, mStar, mStarT, mStarL, mAugI, mIndex, dO, isN, isi_str, eq_str]
  · by_cases h : z = e
    · subst h
      simp [fnM, fnR, ent, mSeq, mSet, mV, mC, mOp1, mOp2, mChain, mAnd, mOr, mNot, mIf, mArgs, escAll, esc, soft, pk, hard, put, puts, mHards, mPar, mTup, mLst, mDct0, mCall, mRest, mRt, mRtN, mNx, mEx, mIte, mMut, mPut, mIt, bindT, bindTs, isAtom, isLst, isDK, plainAt, wipeE, backE, mFor, mLc, mDc, mWhile, mBk, mCt, mNo, mSl, mNoP, mPt, mJoin, mRng1, mRng2, mZip, mCallK, pickL, mMeth, mProp, mMake, mFld, fnI, fnIR, mDisp, mPairs, o2I, gtI, geI, leI, mStar, mStarT, mStarL, mAugI, mIndex, dO, isN, isi_str, eq_str]
    · simp [fnM, fnR, ent, mSeq, mSet, mV, mC, mOp1, mOp2, mChain, mAnd, mOr, mNot, mIf, mArgs, escAll, esc, soft, pk, hard, put, puts, mHards, mPar, mTup, mLst, mDct0, mCall, mRest, mRt, mRtN, mNx, mEx, mIte, mMut, mPut, mIt, bindT, bindTs, isAtom, isLst, isDK, plainAt, wipeE, backE, mFor, mLc, mDc, mWhile, mBk, mCt, mNo, mSl, mNoP, mPt, mJoin, mRng1, mRng2, mZip, mCallK, pickL, mMeth, mProp, mMake, mFld, fnI, fnIR, mDisp, mPairs, o2I, gtI, geI, leI, mStar, mStarT, mStarL, mAugI, mIndex, dO, isN, isi_str, eq_str, h, inD, in_lst, hz, ne_str, hne]
def look (t : Tab) (x : Str) : Option Str := (t.lookup x).getD none
theorem lookup_of_mem {α : Type} : ∀ {t : List (Str × α)} {p : Str × α}, (t.map (·.1)).Nodup → p ∈ t → t.lookup p.1 = some p.2
  | q :: t, p, hn, hp => by
    obtain ⟨k, v⟩ := q
    rw [List.map_cons, List.nodup_cons] at hn
    rw [List.lookup_cons]
    rcases List.mem_cons.mp hp with rfl | hp
    · simp
    · have : p.1 ≠ k := fun z => hn.1 (by rw [← z]; exact List.mem_map_of_mem (f := (·.1)) hp)
      rw [beq_eq_false_iff_ne.mpr this]
      exact lookup_of_mem hn.2 hp
theorem tab_look {dots : List Str} {e : Str} {t : Tab} (h : TabOk dots e t) {x : Str} (hx : x ∈ dots) : t.lookup x = some (look t x) ∧ PlaceOk dots e x (look t x) := by
  have hm : x ∈ t.map (·.1) := h.1.mem_iff.mpr hx
  obtain ⟨y, hy⟩ := Option.isSome_iff_exists.mp (look_some.mp hm)
  have hl : look t x = y := by unfold look; rw [hy]; rfl
  rw [hl]
  exact ⟨hy, h.2 _ (PySem.mem_of_lookup hy)⟩
theorem in_dT_true {α : Type} (f : α → D) {k : Str} {t : List (Str × α)} (h : k ∈ t.map (·.1)) : inB (.str k) (dT f t) = some true := by rw [in_dT, decide_eq_true h]
theorem in_dT_false {α : Type} (f : α → D) {k : Str} {t : List (Str × α)} (h : k ∉ t.map (·.1)) : inB (.str k) (dT f t) = some false := by rw [in_dT, decide_eq_false h]
theorem is_table_ok {dots : List Str} {e : Str} {t : Tab} (h : TabOk dots e t) (hl : dots.length < 100) (r : R) : f_is_table T [.lst (dS dots), .str e, dT dO t] r = some (.sh (.bl true), r) := by
  unfold f_is_table m_is_table
  generalize hL1 : mLc _ _ _ _ (mOp2 inD _ _) = L1
  generalize hL2 : mLc _ _ _ _ _ = L2
  have eL1 : L1 ⟨[some ⟨.lst (dS dots), false⟩, some ⟨.str e, false⟩, some ⟨dT dO t, false⟩, none], r⟩ = some (.tmp (.lst (dots.map fun _ => .bl true)), ⟨[some ⟨.lst (dS dots), false⟩, some ⟨.str e, false⟩, some ⟨dT dO t, false⟩, none], r⟩) := by
    rw [← hL1]
    refine mLc_all D.str (fun _ => .bl true) dots ?_ (by rfl) (fun x hx => ?_) (by unfold sizeLine; omega)
    · simp [fnM, fnR, ent, mSeq, mSet, mV, mC, mOp1, mOp2, mChain, mAnd, mOr, mNot, mIf, mArgs, escAll, esc, soft, pk, hard, put, puts, mHards, mPar, mTup, mLst, mDct0, mCall, mRest, mRt, mRtN, mNx, mEx, mIte, mMut, mPut, mIt, bindT, bindTs, isAtom, isLst, isDK, plainAt, wipeE, backE, mFor, mLc, mDc, mWhile, mBk, mCt, mNo, mSl, mNoP, mPt, mJoin, mRng1, mRng2, mZip, mCallK, pickL, mMeth, mProp, mMake, mFld, fnI, fnIR, mDisp, mPairs, o2I, gtI, geI, leI, mStar, mStarT, mStarL, mAugI, mIndex, itemsOf, dS]
    · have hm : x ∈ t.map (·.1) := h.1.mem_iff.mpr hx
      simp [fnM, fnR, ent, mSeq, mSet, mV, mC, mOp1, mOp2, mChain, mAnd, mOr, mNot, mIf, mArgs, escAll, esc, soft, pk, hard, put, puts, mHards, mPar, mTup, mLst, mDct0, mCall, mRest, mRt, mRtN, mNx, mEx, mIte, mMut, mPut, mIt, bindT, bindTs, isAtom, isLst, isDK, plainAt, wipeE, backE, mFor, mLc, mDc, mWhile, mBk, mCt, mNo, mSl, mNoP, mPt, mJoin, mRng1, mRng2, mZip, mCallK, pickL, mMeth, mProp, mMake, mFld, fnI, fnIR, mDisp, mPairs, o2I, gtI, geI, leI, mStar, mStarT, mStarL, mAugI, mIndex, inD, in_dT_true dO hm]
  have eL2 : L2 ⟨[some ⟨.lst (dS dots), false⟩, some ⟨.str e, false⟩, some ⟨dT dO t, false⟩, none], r⟩ = some (.tmp (.lst (dots.map fun _ => .bl true)), ⟨[some ⟨.lst (dS dots), false⟩, some ⟨.str e, false⟩, some ⟨dT dO t, false⟩, none], r⟩) := by
    rw [← hL2]
    refine mLc_all D.str (fun _ => .bl true) dots ?_ (by rfl) (fun x hx => ?_) (by unfold sizeLine; omega)
    · simp [fnM, fnR, ent, mSeq, mSet, mV, mC, mOp1, mOp2, mChain, mAnd, mOr, mNot, mIf, mArgs, escAll, esc, soft, pk, hard, put, puts, mHards, mPar, mTup, mLst, mDct0, mCall, mRest, mRt, mRtN, mNx, mEx, mIte, mMut, mPut, mIt, bindT, bindTs, isAtom, isLst, isDK, plainAt, wipeE, backE, mFor, mLc, mDc, mWhile, mBk, mCt, mNo, mSl, mNoP, mPt, mJoin, mRng1, mRng2, mZip, mCallK, pickL, mMeth, mProp, mMake, mFld, fnI, fnIR, mDisp, mPairs, o2I, gtI, geI, leI, mStar, mStarT, mStarL, mAugI, mIndex, itemsOf, dS]
    · obtain ⟨h1, h2⟩ := tab_look h hx
      simp [fnM, fnR, ent, mSeq, mSet, mV, mC, mOp1, mOp2, mChain, mAnd, mOr, mNot, mIf, mArgs, escAll, esc, soft, pk, hard, put, puts, mHards, mPar, mTup, mLst, mDct0, mCall, mRest, mRt, mRtN, mNx, mEx, mIte, mMut, mPut, mIt, bindT, bindTs, isAtom, isLst, isDK, plainAt, wipeE, backE, mFor, mLc, mDc, mWhile, mBk, mCt, mNo, mSl, mNoP, mPt, mJoin, mRng1, mRng2, mZip, mCallK, pickL, mMeth, mProp, mMake, mFld, fnI, fnIR, mDisp, mPairs, o2I, gtI, geI, leI, mStar, mStarT, mStarL, mAugI, mIndex, idx_dT dO h1, is_place_ok h2]
  simp [fnM, fnR, ent, mSeq, mSet, mV, mC, mOp1, mOp2, mChain, mAnd, mOr, mNot, mIf, mArgs, escAll, esc, soft, pk, hard, put, puts, mHards, mPar, mTup, mLst, mDct0, mCall, mRest, mRt, mRtN, mNx, mEx, mIte, mMut, mPut, mIt, bindT, bindTs, isAtom, isLst, isDK, plainAt, wipeE, backE, mFor, mLc, mDc, mWhile, mBk, mCt, mNo, mSl, mNoP, mPt, mJoin, mRng1, mRng2, mZip, mCallK, pickL, mMeth, mProp, mMake, mFld, fnI, fnIR, mDisp, mPairs, o2I, gtI, geI, leI, mStar, mStarT, mStarL, mAugI, mIndex, isi_dict, len_dT, len_lst, ne_int', tab_len h, dS_length, eL1, eL2, all_true]
theorem are_tables_ok {M : Mod} (hM : ModW M) (r : R) : f_are_tables T [dT dP M.rows] r = some (.sh (.bl true), r) := by
  suffices h : Ev (f_are_tables T [dT dP M.rows] r) (fun v r' => v = .sh (.bl true) ∧ r' = r) by
    obtain ⟨v, r', e, rfl, rfl⟩ := h
    exact e
  have h1 := hM.r1
  have h2 := hM.r2
  have d2 := hM.d2
  have han := are_names_ok (T := T) dP M.rows 2 h1 h2 (by omega) (fun x hx => by
    obtain ⟨p, hp, rfl⟩ := List.mem_map.mp hx
    exact hM.rname p hp) r
  rw [show ((2 : Nat) : Int) = 2 from rfl] at han
  have hno := nodes_of_ok (T := T) hM r
  unfold f_are_tables m_are_tables
  generalize hL : mLc _ _ _ _ _ = L
  generalize hF : mFor _ _ _ = F1
  have eL : L ⟨[some ⟨dT dP M.rows, false⟩, some ⟨.lst (dS M.dots), true⟩, none, none, none], r⟩ = some (.tmp (.lst ((M.dots.map fun _ => false).map D.bl)), ⟨[some ⟨dT dP M.rows, false⟩, some ⟨.lst (dS M.dots), false⟩, none, none, none], r⟩) := by
    rw [← hL, List.map_map]
    refine mLc_all D.str (fun _ => .bl false) M.dots ?_ (by rfl) (fun x hx => ?_) (by unfold sizeLine; omega)
    · simp [fnM, fnR, ent, mSeq, mSet, mV, mC, mOp1, mOp2, mChain, mAnd, mOr, mNot, mIf, mArgs, escAll, esc, soft, pk, hard, put, puts, mHards, mPar, mTup, mLst, mDct0, mCall, mRest, mRt, mRtN, mNx, mEx, mIte, mMut, mPut, mIt, bindT, bindTs, isAtom, isLst, isDK, plainAt, wipeE, backE, mFor, mLc, mDc, mWhile, mBk, mCt, mNo, mSl, mNoP, mPt, mJoin, mRng1, mRng2, mZip, mCallK, pickL, mMeth, mProp, mMake, mFld, fnI, fnIR, mDisp, mPairs, o2I, gtI, geI, leI, mStar, mStarT, mStarL, mAugI, mIndex, itemsOf, dS]
    · have hx' : x ∉ M.rows.map (·.1) := fun z => by
        obtain ⟨p, hp, rfl⟩ := List.mem_map.mp z
        exact hM.rdot p hp hx
      simp [fnM, fnR, ent, mSeq, mSet, mV, mC, mOp1, mOp2, mChain, mAnd, mOr, mNot, mIf, mArgs, escAll, esc, soft, pk, hard, put, puts, mHards, mPar, mTup, mLst, mDct0, mCall, mRest, mRt, mRtN, mNx, mEx, mIte, mMut, mPut, mIt, bindT, bindTs, isAtom, isLst, isDK, plainAt, wipeE, backE, mFor, mLc, mDc, mWhile, mBk, mCt, mNo, mSl, mNoP, mPt, mJoin, mRng1, mRng2, mZip, mCallK, pickL, mMeth, mProp, mMake, mFld, fnI, fnIR, mDisp, mPairs, o2I, gtI, geI, leI, mStar, mStarT, mStarL, mAugI, mIndex, inD, in_dT_false dP hx']
  have hany : anyD (.lst ((M.dots.map fun _ => false).map D.bl)) = some (.sh (.bl false)) := by
    rw [any_bl]
    have : (M.dots.map fun _ => false).any id = false := by simp
    rw [this]
  rw [show (M.dots.map fun _ => false).map D.bl = M.dots.map fun _ => D.bl false by rw [List.map_map]; rfl] at eL hany
  simp [fnM, fnR, ent, mSeq, mSet, mV, mC, mOp1, mOp2, mChain, mAnd, mOr, mNot, mIf, mArgs, escAll, esc, soft, pk, hard, put, puts, mHards, mPar, mTup, mLst, mDct0, mCall, mRest, mRt, mRtN, mNx, mEx, mIte, mMut, mPut, mIt, bindT, bindTs, isAtom, isLst, isDK, plainAt, wipeE, backE, mFor, mLc, mDc, mWhile, mBk, mCt, mNo, mSl, mNoP, mPt, mJoin, mRng1, mRng2, mZip, mCallK, pickL, mMeth, mProp, mMake, mFld, fnI, fnIR, mDisp, mPairs, o2I, gtI, geI, leI, mStar, mStarT, mStarL, mAugI, mIndex, han, hno, isN, eL, hany]
  subst hF
  refine mFor_ev (ds := dS (M.rows.map (·.1))) (s1 := ⟨[some ⟨dT dP M.rows, false⟩, some ⟨.lst (dS M.dots), false⟩, none, none, none], r⟩) (by simp [fnM, fnR, ent, mSeq, mSet, mV, mC, mOp1, mOp2, mChain, mAnd, mOr, mNot, mIf, mArgs, escAll, esc, soft, pk, hard, put, puts, mHards, mPar, mTup, mLst, mDct0, mCall, mRest, mRt, mRtN, mNx, mEx, mIte, mMut, mPut, mIt, bindT, bindTs, isAtom, isLst, isDK, plainAt, wipeE, backE, mFor, mLc, mDc, mWhile, mBk, mCt, mNo, mSl, mNoP, mPt, mJoin, mRng1, mRng2, mZip, mCallK, pickL, mMeth, mProp, mMake, mFld, fnI, fnIR, mDisp, mPairs, o2I, gtI, geI, leI, mStar, mStarT, mStarL, mAugI, mIndex, items_dT]) ?_
  let I : List D → S R → Prop := fun ds s => ∃ (post : List Str) (a2 a3 : Option Cell), ds = dS post ∧ s = ⟨[some ⟨dT dP M.rows, false⟩, some ⟨.lst (dS M.dots), false⟩, a2, a3, none], r⟩ ∧ ∀ x ∈ post, x ∈ M.rows.map (·.1)
  refine (for_ev I (fun fl s => fl = .nx ∧ I [] s) (fun d ds s hs => ?_) (fun s hs => ⟨rfl, hs⟩) _ _ ⟨_, none, none, rfl, rfl, fun x hx => hx⟩).mono ?_
  · obtain ⟨post, a2, a3, hd, rfl, g1⟩ := hs
    match post, hd, g1 with
    | x :: post, hd, g1 =>
      obtain ⟨rfl, rfl⟩ : d = .str x ∧ ds = dS post := List.cons.inj hd
      obtain ⟨⟨x', p⟩, hp, rfl⟩ := List.mem_map.mp (g1 x List.mem_cons_self)
      obtain ⟨ht1, ht2⟩ := hM.tab _ hp
      have hi : idxD (dT dP M.rows) (.str x') = some (.sh (.tup [dT dO p.1, dT dO p.2])) := idx_dT dP (lookup_of_mem hM.rn hp)
      have q1 := is_table_ok (T := T) ht1 (by omega) r
      have q2 := is_table_ok (T := T) ht2 (by omega) r
      simp [fnM, fnR, ent, mSeq, mSet, mV, mC, mOp1, mOp2, mChain, mAnd, mOr, mNot, mIf, mArgs, escAll, esc, soft, pk, hard, put, puts, mHards, mPar, mTup, mLst, mDct0, mCall, mRest, mRt, mRtN, mNx, mEx, mIte, mMut, mPut, mIt, bindT, bindTs, isAtom, isLst, isDK, plainAt, wipeE, backE, mFor, mLc, mDc, mWhile, mBk, mCt, mNo, mSl, mNoP, mPt, mJoin, mRng1, mRng2, mZip, mCallK, pickL, mMeth, mProp, mMake, mFld, fnI, fnIR, mDisp, mPairs, o2I, gtI, geI, leI, mStar, mStarT, mStarL, mAugI, mIndex, hi, isi_tup, len_tup, ne_int', idx_tup2_0, idx_tup2_1, q1, q2]
      exact ⟨post, _, _, rfl, rfl, fun y hy => g1 y (List.mem_cons_of_mem _ hy)⟩
  · rintro fl s ⟨rfl, post, a2, a3, hd, rfl, g1⟩
    simp
theorem dd_self {xs : List Str} (h : xs.Nodup) : SetTx.ddS xs = xs := by
  have key : ∀ (ys acc : List Str), (acc ++ ys).Nodup → ys.foldl (fun acc x => if acc.any (· == x) then acc else acc ++ [x]) acc = acc ++ ys := by
    intro ys
    induction ys with
    | nil => intro acc _; simp
    | cons y ys ih =>
      intro acc hn
      rw [List.foldl_cons]
      have hy : acc.any (· == y) = false := by
        rw [List.any_eq_false]
        intro x hx z
        have : x = y := by simpa using z
        subst this
        exact (List.nodup_append.mp hn).2.2 x hx x List.mem_cons_self rfl
      rw [hy]
      simp only [Bool.false_eq_true, if_false]
      rw [ih (acc ++ [y]) (by simpa using hn)]
      simp
  have := key xs [] (by simpa using h)
  simpa [SetTx.ddS] using this
theorem are_nodes_ok {dots xs : List Str} (hs : ∀ x ∈ xs, x ∈ dots) (hn : xs.Nodup) (hl : xs.length < 100) (r : R) : f_are_nodes T [.lst (dS dots), .lst (dS xs)] r = some (.sh (.bl true), r) := by
  have h1 : f_is_list T [.lst (dS xs)] r = some (.sh (.bl true), r) := rfl
  unfold f_are_nodes m_are_nodes
  generalize hL : mLc _ _ _ _ _ = L
  have eL : L ⟨[some ⟨.lst (dS dots), false⟩, some ⟨.lst (dS xs), false⟩, none], r⟩ = some (.tmp (.lst (xs.map fun _ => .bl true)), ⟨[some ⟨.lst (dS dots), false⟩, some ⟨.lst (dS xs), false⟩, none], r⟩) := by
    rw [← hL]
    refine mLc_all D.str (fun _ => .bl true) xs ?_ (by rfl) (fun x hx => ?_) (by unfold sizeLine; omega)
    · simp [fnM, fnR, ent, mSeq, mSet, mV, mC, mOp1, mOp2, mChain, mAnd, mOr, mNot, mIf, mArgs, escAll, esc, soft, pk, hard, put, puts, mHards, mPar, mTup, mLst, mDct0, mCall, mRest, mRt, mRtN, mNx, mEx, mIte, mMut, mPut, mIt, bindT, bindTs, isAtom, isLst, isDK, plainAt, wipeE, backE, mFor, mLc, mDc, mWhile, mBk, mCt, mNo, mSl, mNoP, mPt, mJoin, mRng1, mRng2, mZip, mCallK, pickL, mMeth, mProp, mMake, mFld, fnI, fnIR, mDisp, mPairs, o2I, gtI, geI, leI, mStar, mStarT, mStarL, mAugI, mIndex, itemsOf, dS]
    · simp [fnM, fnR, ent, mSeq, mSet, mV, mC, mOp1, mOp2, mChain, mAnd, mOr, mNot, mIf, mArgs, escAll, esc, soft, pk, hard, put, puts, mHards, mPar, mTup, mLst, mDct0, mCall, mRest, mRt, mRtN, mNx, mEx, mIte, mMut, mPut, mIt, bindT, bindTs, isAtom, isLst, isDK, plainAt, wipeE, backE, mFor, mLc, mDc, mWhile, mBk, mCt, mNo, mSl, mNoP, mPt, mJoin, mRng1, mRng2, mZip, mCallK, pickL, mMeth, mProp, mMake, mFld, fnI, fnIR, mDisp, mPairs, o2I, gtI, geI, leI, mStar, mStarT, mStarL, mAugI, mIndex, isi_str, inD, in_lst, hs x hx]
  have hls : lenSetD (.lst (dS xs)) = some (.sh (.int xs.length)) := by
    have h4 : xs.length < 4000 := by omega
    simp only [lenSetD, strsOf_dS, Option.bind, h4, if_true, dd_self hn]
  simp [fnM, fnR, ent, mSeq, mSet, mV, mC, mOp1, mOp2, mChain, mAnd, mOr, mNot, mIf, mArgs, escAll, esc, soft, pk, hard, put, puts, mHards, mPar, mTup, mLst, mDct0, mCall, mRest, mRt, mRtN, mNx, mEx, mIte, mMut, mPut, mIt, bindT, bindTs, isAtom, isLst, isDK, plainAt, wipeE, backE, mFor, mLc, mDc, mWhile, mBk, mCt, mNo, mSl, mNoP, mPt, mJoin, mRng1, mRng2, mZip, mCallK, pickL, mMeth, mProp, mMake, mFld, fnI, fnIR, mDisp, mPairs, o2I, gtI, geI, leI, mStar, mStarT, mStarL, mAugI, mIndex, h1, eL, all_true, hls, len_lst, dS_length, eq_int']
theorem are_nodesT_ok {dots xs : List Str} (hs : ∀ x ∈ xs, x ∈ dots) (hn : xs.Nodup) (hl : xs.length < 100) (r : R) : f_are_nodes T [.lst (dS dots), .tup (dS xs)] r = some (.sh (.bl true), r) := by
  have h1 : f_is_list T [.tup (dS xs)] r = some (.sh (.bl true), r) := rfl
  unfold f_are_nodes m_are_nodes
  generalize hL : mLc _ _ _ _ _ = L
  have eL : L ⟨[some ⟨.lst (dS dots), false⟩, some ⟨.tup (dS xs), false⟩, none], r⟩ = some (.tmp (.lst (xs.map fun _ => .bl true)), ⟨[some ⟨.lst (dS dots), false⟩, some ⟨.tup (dS xs), false⟩, none], r⟩) := by
    rw [← hL]
    refine mLc_all D.str (fun _ => .bl true) xs ?_ (by rfl) (fun x hx => ?_) (by unfold sizeLine; omega)
    · simp [fnM, fnR, ent, mSeq, mSet, mV, mC, mOp1, mOp2, mChain, mAnd, mOr, mNot, mIf, mArgs, escAll, esc, soft, pk, hard, put, puts, mHards, mPar, mTup, mLst, mDct0, mCall, mRest, mRt, mRtN, mNx, mEx, mIte, mMut, mPut, mIt, bindT, bindTs, isAtom, isLst, isDK, plainAt, wipeE, backE, mFor, mLc, mDc, mWhile, mBk, mCt, mNo, mSl, mNoP, mPt, mJoin, mRng1, mRng2, mZip, mCallK, pickL, mMeth, mProp, mMake, mFld, fnI, fnIR, mDisp, mPairs, o2I, gtI, geI, leI, mStar, mStarT, mStarL, mAugI, mIndex, itemsOf, dS]
    · simp [fnM, fnR, ent, mSeq, mSet, mV, mC, mOp1, mOp2, mChain, mAnd, mOr, mNot, mIf, mArgs, escAll, esc, soft, pk, hard, put, puts, mHards, mPar, mTup, mLst, mDct0, mCall, mRest, mRt, mRtN, mNx, mEx, mIte, mMut, mPut, mIt, bindT, bindTs, isAtom, isLst, isDK, plainAt, wipeE, backE, mFor, mLc, mDc, mWhile, mBk, mCt, mNo, mSl, mNoP, mPt, mJoin, mRng1, mRng2, mZip, mCallK, pickL, mMeth, mProp, mMake, mFld, fnI, fnIR, mDisp, mPairs, o2I, gtI, geI, leI, mStar, mStarT, mStarL, mAugI, mIndex, isi_str, inD, in_lst, hs x hx]
  have hls : lenSetD (.tup (dS xs)) = some (.sh (.int xs.length)) := by
    have h4 : xs.length < 4000 := by omega
    simp only [lenSetD, strsOf_dS, Option.bind, h4, if_true, dd_self hn]
  simp [fnM, fnR, ent, mSeq, mSet, mV, mC, mOp1, mOp2, mChain, mAnd, mOr, mNot, mIf, mArgs, escAll, esc, soft, pk, hard, put, puts, mHards, mPar, mTup, mLst, mDct0, mCall, mRest, mRt, mRtN, mNx, mEx, mIte, mMut, mPut, mIt, bindT, bindTs, isAtom, isLst, isDK, plainAt, wipeE, backE, mFor, mLc, mDc, mWhile, mBk, mCt, mNo, mSl, mNoP, mPt, mJoin, mRng1, mRng2, mZip, mCallK, pickL, mMeth, mProp, mMake, mFld, fnI, fnIR, mDisp, mPairs, o2I, gtI, geI, leI, mStar, mStarT, mStarL, mAugI, mIndex, h1, eL, all_true, hls, len_tup, dS_length, eq_int']
/-- the table with ascending keys -/
def ordT (dots : List Str) (t : Tab) : Tab := dots.map fun x => (x, look t x)
theorem ordered_ok {dots : List Str} {e : Str} {t : Tab} (h : TabOk dots e t) (hu : Up dots) (hn : dots.Nodup) (hl : dots.length < 60) (r : R) : f_ordered T [dT dO t] r = some (.tmp (dT dO (ordT dots t)), r) := by
  have hs := sort_dT (f := dO) (t := t) (by rw [tab_len h]; omega)
  rw [sortS_of_perm h.1, sortS_self hu] at hs
  unfold f_ordered m_ordered
  generalize hL : mDc _ _ _ _ _ _ = L
  have eL : L ⟨[some ⟨dT dO t, false⟩, none], r⟩ = some (.tmp (.dct false (dots.map fun x => (.str x, dO (look t x)))), ⟨[some ⟨dT dO t, false⟩, none], r⟩) := by
    rw [← hL]
    refine mDc_enc D.str (fun x => x) (fun x => dO (look t x)) dots ?_ (by rfl) (fun x hx => ?_) (by unfold sizeLine; omega) (by simpa using hn)
    · simp [fnM, fnR, ent, mSeq, mSet, mV, mC, mOp1, mOp2, mChain, mAnd, mOr, mNot, mIf, mArgs, escAll, esc, soft, pk, hard, put, puts, mHards, mPar, mTup, mLst, mDct0, mCall, mRest, mRt, mRtN, mNx, mEx, mIte, mMut, mPut, mIt, bindT, bindTs, isAtom, isLst, isDK, plainAt, wipeE, backE, mFor, mLc, mDc, mWhile, mBk, mCt, mNo, mSl, mNoP, mPt, mJoin, mRng1, mRng2, mZip, mCallK, pickL, mMeth, mProp, mMake, mFld, fnI, fnIR, mDisp, mPairs, o2I, gtI, geI, leI, mStar, mStarT, mStarL, mAugI, mIndex, hs, itemsOf, dS]
    · simp [fnM, fnR, ent, mSeq, mSet, mV, mC, mOp1, mOp2, mChain, mAnd, mOr, mNot, mIf, mArgs, escAll, esc, soft, pk, hard, put, puts, mHards, mPar, mTup, mLst, mDct0, mCall, mRest, mRt, mRtN, mNx, mEx, mIte, mMut, mPut, mIt, bindT, bindTs, isAtom, isLst, isDK, plainAt, wipeE, backE, mFor, mLc, mDc, mWhile, mBk, mCt, mNo, mSl, mNoP, mPt, mJoin, mRng1, mRng2, mZip, mCallK, pickL, mMeth, mProp, mMake, mFld, fnI, fnIR, mDisp, mPairs, o2I, gtI, geI, leI, mStar, mStarT, mStarL, mAugI, mIndex, idx_dT dO (tab_look h hx).1]
  have e2 : D.dct false (dots.map fun x => (.str x, dO (look t x))) = dT dO (ordT dots t) := by
    unfold dT ordT
    rw [List.map_map]; rfl
  rw [e2] at eL
  simp [fnM, fnR, ent, mSeq, mSet, mV, mC, mOp1, mOp2, mChain, mAnd, mOr, mNot, mIf, mArgs, escAll, esc, soft, pk, hard, put, puts, mHards, mPar, mTup, mLst, mDct0, mCall, mRest, mRt, mRtN, mNx, mEx, mIte, mMut, mPut, mIt, bindT, bindTs, isAtom, isLst, isDK, plainAt, wipeE, backE, mFor, mLc, mDc, mWhile, mBk, mCt, mNo, mSl, mNoP, mPt, mJoin, mRng1, mRng2, mZip, mCallK, pickL, mMeth, mProp, mMake, mFld, fnI, fnIR, mDisp, mPairs, o2I, gtI, geI, leI, mStar, mStarT, mStarL, mAugI, mIndex, eL]
theorem ordT_look {dots : List Str} {t : Tab} {x : Str} (hx : x ∈ dots) : (ordT dots t).lookup x = some (look t x) := by
  unfold ordT
  induction dots with
  | nil => cases hx
  | cons y ys ih =>
    rw [List.map_cons, List.lookup_cons]
    by_cases h : x = y
    · subst h; simp
    · rw [beq_eq_false_iff_ne.mpr h]
      exact ih ((List.mem_cons.mp hx).resolve_left h)
end
end RW
namespace RW
open PySem L2
/-! ### the net of a model -/
def chg (M : Mod) (x : Str) : Bool := M.rows.any fun p => !decide (look p.2.1 x = look p.2.2 x)
def changing (M : Mod) : List Str := M.dots.filter (chg M)
def ordR (M : Mod) : List (Str × (Tab × Tab)) := M.rows.map fun p => (p.1, (ordT M.dots p.2.1, ordT M.dots p.2.2))
def netF (M : Mod) : List (Str × D) := [("own_tables", dT dP (ordR M)), ("own_goals", .tup (dS (M.rows.map (·.1)))), ("own_nodes", .tup (dS M.dots)), ("own_sources", .tup (dS M.sources)), ("own_posts", .tup (dS M.posts)), ("own_changing", .tup (dS (changing M)))]
def netD (M : Mod) : D := .obj 0 (netF M)
section
variable {R : Type} {T : Fm R}
theorem vals_dT {α : Type} (f : α → D) (t : List (Str × α)) : valsOf (dT f t) = some (t.map fun p => f p.2) := by simp [dT, valsOf]
theorem fld_tables (a : D) (fs : List (Str × D)) : fldD 0 "own_tables" (.obj 0 (("own_tables", a) :: fs)) = some (.sh a) := rfl
theorem does_change_ok {M : Mod} (hM : ModOk M) {x : Str} (hx : x ∈ M.dots) (fs : List (Str × D)) (r : R) : f_Net_does_change T [.obj 0 (("own_tables", dT dP (ordR M)) :: fs), .str x] r = some (.sh (.bl (chg M x)), r) := by
  unfold f_Net_does_change m_Net_does_change
  generalize hL : mLc _ _ _ _ _ = L
  have eL : L ⟨[some ⟨.obj 0 (("own_tables", dT dP (ordR M)) :: fs), false⟩, some ⟨.str x, false⟩, none], r⟩ = some (.tmp (.lst (M.rows.map fun p => .bl (!decide (look p.2.1 x = look p.2.2 x)))), ⟨[some ⟨.obj 0 (("own_tables", dT dP (ordR M)) :: fs), false⟩, some ⟨.str x, false⟩, none], r⟩) := by
    rw [← hL]
    refine mLc_all (fun p : Str × (Tab × Tab) => .tup [dT dO (ordT M.dots p.2.1), dT dO (ordT M.dots p.2.2)]) (fun p => .bl (!decide (look p.2.1 x = look p.2.2 x))) M.rows ?_ (by rfl) (fun p hp => ?_) (by have := hM.r2; unfold sizeLine; omega)
    · simp [fnM, fnR, ent, mSeq, mSet, mV, mC, mOp1, mOp2, mChain, mAnd, mOr, mNot, mIf, mArgs, escAll, esc, soft, pk, hard, put, puts, mHards, mPar, mTup, mLst, mDct0, mCall, mRest, mRt, mRtN, mNx, mEx, mIte, mMut, mPut, mIt, bindT, bindTs, isAtom, isLst, isDK, plainAt, wipeE, backE, mFor, mLc, mDc, mWhile, mBk, mCt, mNo, mSl, mNoP, mPt, mJoin, mRng1, mRng2, mZip, mCallK, pickL, mMeth, mProp, mMake, mFld, fnI, fnIR, mDisp, mPairs, o2I, gtI, geI, leI, mStar, mStarT, mStarL, mAugI, mIndex, fld_tables, vals_dT, ordR, Function.comp_def, dP]
    · simp [fnM, fnR, ent, mSeq, mSet, mV, mC, mOp1, mOp2, mChain, mAnd, mOr, mNot, mIf, mArgs, escAll, esc, soft, pk, hard, put, puts, mHards, mPar, mTup, mLst, mDct0, mCall, mRest, mRt, mRtN, mNx, mEx, mIte, mMut, mPut, mIt, bindT, bindTs, isAtom, isLst, isDK, plainAt, wipeE, backE, mFor, mLc, mDc, mWhile, mBk, mCt, mNo, mSl, mNoP, mPt, mJoin, mRng1, mRng2, mZip, mCallK, pickL, mMeth, mProp, mMake, mFld, fnI, fnIR, mDisp, mPairs, o2I, gtI, geI, leI, mStar, mStarT, mStarL, mAugI, mIndex, idx_tup2_0, idx_tup2_1, idx_dT dO (ordT_look (t := p.2.1) hx), idx_dT dO (ordT_look (t := p.2.2) hx), ne_dO]
  have hany : anyD (.lst (M.rows.map fun p => .bl (!decide (look p.2.1 x = look p.2.2 x)))) = some (.sh (.bl (chg M x))) := by
    have := any_bl (M.rows.map fun p => !decide (look p.2.1 x = look p.2.2 x))
    rw [List.map_map, List.any_map] at this
    exact this
  simp [fnM, fnR, ent, mSeq, mSet, mV, mC, mOp1, mOp2, mChain, mAnd, mOr, mNot, mIf, mArgs, escAll, esc, soft, pk, hard, put, puts, mHards, mPar, mTup, mLst, mDct0, mCall, mRest, mRt, mRtN, mNx, mEx, mIte, mMut, mPut, mIt, bindT, bindTs, isAtom, isLst, isDK, plainAt, wipeE, backE, mFor, mLc, mDc, mWhile, mBk, mCt, mNo, mSl, mNoP, mPt, mJoin, mRng1, mRng2, mZip, mCallK, pickL, mMeth, mProp, mMake, mFld, fnI, fnIR, mDisp, mPairs, o2I, gtI, geI, leI, mStar, mStarT, mStarL, mAugI, mIndex, eL, hany]
def sq (b : Bool) (xs : List Str) : D := if b = true then .tup (dS xs) else .lst (dS xs)
theorem sort_sq {xs : List Str} (b : Bool) (h : xs.length < 64) (hu : Up xs) : sortG (sq b xs) = some (.tmp (.lst (dS xs))) := by
  cases b
  · show sortF (.lst (dS xs)) = _
    rw [sort_dS h, sortS_self hu]
  · have : sortTp (.tup (dS xs)) = some (.tmp (.lst (dS xs))) := by
      show (strsOf (dS xs)).bind _ = _
      rw [strsOf_dS]
      show (if xs.length < 64 then some (Vr.tmp (.lst ((sortS xs).map D.str))) else none) = _
      rw [if_pos h, sortS_self hu]; rfl
    show (match sortTp (.tup (dS xs)) with | some r => some r | none => sortF (.tup (dS xs))) = _
    rw [this]
theorem nodes_sq {dots xs : List Str} (b : Bool) (hs : ∀ x ∈ xs, x ∈ dots) (hn : xs.Nodup) (hl : xs.length < 100) (r : R) : f_are_nodes T [.lst (dS dots), sq b xs] r = some (.sh (.bl true), r) := by
  cases b
  · exact are_nodes_ok hs hn hl r
  · exact are_nodesT_ok hs hn hl r
theorem len_sq (b : Bool) (xs : List Str) : lenD (sq b xs) = some (.sh (.int xs.length)) := by
  cases b
  · have := len_lst (dS xs); rw [dS_length] at this; exact this
  · have := len_tup (dS xs); rw [dS_length] at this; exact this
theorem tup_sq (b : Bool) (xs : List Str) : tup1 (sq b xs) = some (.sh (.tup (dS xs))) := by cases b <;> rfl
theorem net_gen2 {M : Mod} (hM : ModOk M) {rows : List (Str × (Tab × Tab))} (hp : rows.Perm M.rows) (b c : Bool) (r : R) : i_Net___init__ T [dT dP rows, sq b M.sources, sq c M.posts] r = some (netF M, r) := by
  have hrn : (rows.map (·.1)).Nodup := (hp.map _).nodup_iff.mpr hM.rn
  have hW : ModW ⟨rows, M.dots, M.sources, M.posts⟩ := ⟨by show 0 < rows.length; rw [hp.length_eq]; exact hM.r1, by show rows.length ≤ 2; rw [hp.length_eq]; exact hM.r2, hrn, fun p h => hM.rname p (hp.mem_iff.mp h), fun p h => hM.rdot p (hp.mem_iff.mp h), fun p h => hM.tab p (hp.mem_iff.mp h), hM.d1, hM.d2, hM.dn, hM.du, hM.dname, hM.sn, hM.su, hM.ssub, hM.pn, hM.p2, hM.psub⟩
  have d2 := hM.d2
  have r2 := hM.r2
  have p2 := hM.p2
  have hsl : M.sources.length ≤ M.dots.length := sub_len hM.sn hM.ssub
  have q1 : f_are_tables T [dT dP rows] r = _ := are_tables_ok (T := T) hW r
  have q2 : f_nodes_of T [dT dP rows] r = _ := nodes_of_ok (T := T) hW r
  have q3 := nodes_sq (T := T) b hM.ssub hM.sn (by omega) r
  have q4 := nodes_sq (T := T) c hM.psub hM.pn (by omega) r
  have hsr : sortG (dT dP rows) = some (.tmp (.lst (dS (M.rows.map (·.1))))) := by
    show sortF (dT dP rows) = _
    rw [sort_dT (by rw [hp.length_eq]; omega), sortS_of_perm (hp.map _), sortS_self hM.ru]
  have hss := sort_sq (xs := M.sources) b (by omega) hM.su
  have hlp := len_sq c M.posts
  have htp := tup_sq c M.posts
  have p1 : ∀ a : D, putFD "own_tables" a ([] : List (Str × D)) = ([("own_tables", a)] : List (Str × D)) := fun _ => rfl
  have pp2 : ∀ a b : D, putFD "own_goals" b ([("own_tables", a)] : List (Str × D)) = ([("own_tables", a), ("own_goals", b)] : List (Str × D)) := fun _ _ => rfl
  have p3 : ∀ a b c : D, putFD "own_nodes" c ([("own_tables", a), ("own_goals", b)] : List (Str × D)) = ([("own_tables", a), ("own_goals", b), ("own_nodes", c)] : List (Str × D)) := fun _ _ _ => rfl
  have p4 : ∀ a b c d : D, putFD "own_sources" d ([("own_tables", a), ("own_goals", b), ("own_nodes", c)] : List (Str × D)) = ([("own_tables", a), ("own_goals", b), ("own_nodes", c), ("own_sources", d)] : List (Str × D)) := fun _ _ _ _ => rfl
  have p5 : ∀ a b c d e : D, putFD "own_posts" e ([("own_tables", a), ("own_goals", b), ("own_nodes", c), ("own_sources", d)] : List (Str × D)) = ([("own_tables", a), ("own_goals", b), ("own_nodes", c), ("own_sources", d), ("own_posts", e)] : List (Str × D)) := fun _ _ _ _ _ => rfl
  have p6 : ∀ a b c d e f : D, putFD "own_changing" f ([("own_tables", a), ("own_goals", b), ("own_nodes", c), ("own_sources", d), ("own_posts", e)] : List (Str × D)) = ([("own_tables", a), ("own_goals", b), ("own_nodes", c), ("own_sources", d), ("own_posts", e), ("own_changing", f)] : List (Str × D)) := fun _ _ _ _ _ _ => rfl
  have tup_l : ∀ xs, tup1 (.lst xs) = some (.sh (.tup xs)) := fun _ => rfl
  have tup_d : tup1 (dT dP (ordR M)) = some (.sh (.tup (dS (M.rows.map (·.1))))) := by
    unfold dT
    simp only [tup1, keysStr_dT]
    simp [ordR, dS, Function.comp_def]
  generalize sq b M.sources = sd at *
  generalize sq c M.posts = pd at *
  unfold i_Net___init__ m_Net___init__
  generalize hL1 : mDc _ _ _ _ _ _ = L1
  generalize hL2 : mLc _ _ _ _ _ = L2
  have eL1 : L1 ⟨[some ⟨.obj 0 [], true⟩, some ⟨dT dP rows, false⟩, some ⟨sd, false⟩, some ⟨pd, false⟩, some ⟨.lst (dS M.dots), true⟩, none, none], r⟩ = some (.tmp (.dct false (M.rows.map fun p => (.str p.1, .tup [dT dO (ordT M.dots p.2.1), dT dO (ordT M.dots p.2.2)]))), ⟨[some ⟨.obj 0 [], true⟩, some ⟨dT dP rows, false⟩, some ⟨sd, false⟩, some ⟨pd, false⟩, some ⟨.lst (dS M.dots), true⟩, none, none], r⟩) := by
    rw [← hL1]
    refine mDc_enc (fun p : Str × (Tab × Tab) => .str p.1) (fun p => p.1) (fun p => .tup [dT dO (ordT M.dots p.2.1), dT dO (ordT M.dots p.2.2)]) M.rows ?_ (by rfl) (fun p hpm => ?_) (by unfold sizeLine; omega) hM.rn
    · simp [fnM, fnR, ent, mSeq, mSet, mV, mC, mOp1, mOp2, mChain, mAnd, mOr, mNot, mIf, mArgs, escAll, esc, soft, pk, hard, put, puts, mHards, mPar, mTup, mLst, mDct0, mCall, mRest, mRt, mRtN, mNx, mEx, mIte, mMut, mPut, mIt, bindT, bindTs, isAtom, isLst, isDK, plainAt, wipeE, backE, mFor, mLc, mDc, mWhile, mBk, mCt, mNo, mSl, mNoP, mPt, mJoin, mRng1, mRng2, mZip, mCallK, pickL, mMeth, mProp, mMake, mFld, fnI, fnIR, mDisp, mPairs, o2I, gtI, geI, leI, mStar, mStarT, mStarL, mAugI, mIndex, hsr, itemsOf, dS, Function.comp_def]
    · obtain ⟨ht1, ht2⟩ := hM.tab p hpm
      have hi : idxD (dT dP rows) (.str p.1) = some (.sh (.tup [dT dO p.2.1, dT dO p.2.2])) := idx_dT dP (lookup_of_mem hrn (hp.mem_iff.mpr hpm))
      simp [fnM, fnR, ent, mSeq, mSet, mV, mC, mOp1, mOp2, mChain, mAnd, mOr, mNot, mIf, mArgs, escAll, esc, soft, pk, hard, put, puts, mHards, mPar, mTup, mLst, mDct0, mCall, mRest, mRt, mRtN, mNx, mEx, mIte, mMut, mPut, mIt, bindT, bindTs, isAtom, isLst, isDK, plainAt, wipeE, backE, mFor, mLc, mDc, mWhile, mBk, mCt, mNo, mSl, mNoP, mPt, mJoin, mRng1, mRng2, mZip, mCallK, pickL, mMeth, mProp, mMake, mFld, fnI, fnIR, mDisp, mPairs, o2I, gtI, geI, leI, mStar, mStarT, mStarL, mAugI, mIndex, hi, idx_tup2_0, idx_tup2_1, ordered_ok ht1 hM.du hM.dn (by omega), ordered_ok ht2 hM.du hM.dn (by omega)]
  have e1 : D.dct false (M.rows.map fun p => (.str p.1, .tup [dT dO (ordT M.dots p.2.1), dT dO (ordT M.dots p.2.2)])) = dT dP (ordR M) := by
    unfold dT ordR
    rw [List.map_map]; rfl
  rw [e1] at eL1
  have eL2 : L2 ⟨[some ⟨.obj 0 [("own_tables", dT dP (ordR M)), ("own_goals", .tup (dS (M.rows.map (·.1)))), ("own_nodes", .tup (dS M.dots)), ("own_sources", .tup (dS M.sources)), ("own_posts", .tup (dS M.posts))], true⟩, some ⟨dT dP rows, false⟩, some ⟨sd, false⟩, some ⟨pd, false⟩, some ⟨.lst (dS M.dots), true⟩, none, none], r⟩ = some (.tmp (.lst ((M.dots.filter (chg M)).map D.str)), ⟨[some ⟨.obj 0 [("own_tables", dT dP (ordR M)), ("own_goals", .tup (dS (M.rows.map (·.1)))), ("own_nodes", .tup (dS M.dots)), ("own_sources", .tup (dS M.sources)), ("own_posts", .tup (dS M.posts))], true⟩, some ⟨dT dP rows, false⟩, some ⟨sd, false⟩, some ⟨pd, false⟩, some ⟨.lst (dS M.dots), false⟩, none, none], r⟩) := by
    rw [← hL2]
    refine mLc_enc D.str (chg M) D.str M.dots ?_ (by rfl) (fun x hx => ?_) (by unfold sizeLine; omega)
    · simp [fnM, fnR, ent, mSeq, mSet, mV, mC, mOp1, mOp2, mChain, mAnd, mOr, mNot, mIf, mArgs, escAll, esc, soft, pk, hard, put, puts, mHards, mPar, mTup, mLst, mDct0, mCall, mRest, mRt, mRtN, mNx, mEx, mIte, mMut, mPut, mIt, bindT, bindTs, isAtom, isLst, isDK, plainAt, wipeE, backE, mFor, mLc, mDc, mWhile, mBk, mCt, mNo, mSl, mNoP, mPt, mJoin, mRng1, mRng2, mZip, mCallK, pickL, mMeth, mProp, mMake, mFld, fnI, fnIR, mDisp, mPairs, o2I, gtI, geI, leI, mStar, mStarT, mStarL, mAugI, mIndex, itemsOf, dS]
    · have nl : ∀ a b c d e : D, ([(("own_tables" : Str), a), ("own_goals", b), ("own_nodes", c), ("own_sources", d), ("own_posts", e)] : List (Str × D)).lookup ("does_change" : Str) = none := fun _ _ _ _ _ => rfl
      simp [fnM, fnR, ent, mSeq, mSet, mV, mC, mOp1, mOp2, mChain, mAnd, mOr, mNot, mIf, mArgs, escAll, esc, soft, pk, hard, put, puts, mHards, mPar, mTup, mLst, mDct0, mCall, mRest, mRt, mRtN, mNx, mEx, mIte, mMut, mPut, mIt, bindT, bindTs, isAtom, isLst, isDK, plainAt, wipeE, backE, mFor, mLc, mDc, mWhile, mBk, mCt, mNo, mSl, mNoP, mPt, mJoin, mRng1, mRng2, mZip, mCallK, pickL, mMeth, mProp, mMake, mFld, fnI, fnIR, mDisp, mPairs, o2I, gtI, geI, leI, mStar, mStarT, mStarL, mAugI, mIndex, nl, does_change_ok hM hx]
  have hpl : ¬ (2 : Int) < (M.posts.length : Int) := by omega
  simp [fnM, fnR, ent, mSeq, mSet, mV, mC, mOp1, mOp2, mChain, mAnd, mOr, mNot, mIf, mArgs, escAll, esc, soft, pk, hard, put, puts, mHards, mPar, mTup, mLst, mDct0, mCall, mRest, mRt, mRtN, mNx, mEx, mIte, mMut, mPut, mIt, bindT, bindTs, isAtom, isLst, isDK, plainAt, wipeE, backE, mFor, mLc, mDc, mWhile, mBk, mCt, mNo, mSl, mNoP, mPt, mJoin, mRng1, mRng2, mZip, mCallK, pickL, mMeth, mProp, mMake, mFld, fnI, fnIR, mDisp, mPairs, o2I, gtI, geI, leI, mStar, mStarT, mStarL, mAugI, mIndex, q1, q2, q3, q4, hlp, hpl, eL1, p1, fld_tables, tup_d, pp2, p3, tup_l, hss, p4, htp, p5, eL2, p6]
  rfl
theorem net_gen {M : Mod} (hM : ModOk M) {rows : List (Str × (Tab × Tab))} (hp : rows.Perm M.rows) (b : Bool) (r : R) : i_Net___init__ T [dT dP rows, sq b M.sources, sq b M.posts] r = some (netF M, r) := net_gen2 hM hp b b r
theorem net_ok {M : Mod} (hM : ModOk M) (r : R) : i_Net___init__ T [dT dP M.rows, .lst (dS M.sources), .lst (dS M.posts)] r = some (netF M, r) := net_gen hM (List.Perm.refl _) false r
theorem idx_m1 (M : Mod) : idxD (dMod M) (.str "tables") = some (.sh (dT dP M.rows)) := rfl
theorem idx_m2 (M : Mod) : idxD (dMod M) (.str "dots") = some (.sh (.lst (dS M.dots))) := rfl
theorem idx_m3 (M : Mod) : idxD (dMod M) (.str "sources") = some (.sh (.lst (dS M.sources))) := rfl
theorem idx_m4 (M : Mod) : idxD (dMod M) (.str "posts") = some (.sh (.lst (dS M.posts))) := rfl
theorem law_net_ok {M : Mod} (hM : ModOk M) (r : R) : f__law_net T [dMod M] r = some (.tmp (netD M), r) := by
  unfold f__law_net m__law_net
  simp [fnM, fnR, ent, mSeq, mSet, mV, mC, mOp1, mOp2, mChain, mAnd, mOr, mNot, mIf, mArgs, escAll, esc, soft, pk, hard, put, puts, mHards, mPar, mTup, mLst, mDct0, mCall, mRest, mRt, mRtN, mNx, mEx, mIte, mMut, mPut, mIt, bindT, bindTs, isAtom, isLst, isDK, plainAt, wipeE, backE, mFor, mLc, mDc, mWhile, mBk, mCt, mNo, mSl, mNoP, mPt, mJoin, mRng1, mRng2, mZip, mCallK, pickL, mMeth, mProp, mMake, mFld, fnI, fnIR, mDisp, mPairs, o2I, gtI, geI, leI, mStar, mStarT, mStarL, mAugI, mIndex, idx_m1, idx_m3, idx_m4, net_ok hM, netD]
/-! ### what changes -/
theorem moving_ok {M : Mod} (hM : ModOk M) (r : R) : f__law_moving_dots T [dMod M] r = some (.tmp (.lst (dS (changing M))), r) := by
  suffices h : Ev (f__law_moving_dots T [dMod M] r) (fun v r' => v = .tmp (.lst (dS (changing M))) ∧ r' = r) by
    obtain ⟨v, r', e, rfl, rfl⟩ := h
    exact e
  have d2 := hM.d2
  unfold f__law_moving_dots m__law_moving_dots
  generalize hF : mFor _ _ _ = F1
  simp [fnM, fnR, ent, mSeq, mSet, mV, mC, mOp1, mOp2, mChain, mAnd, mOr, mNot, mIf, mArgs, escAll, esc, soft, pk, hard, put, puts, mHards, mPar, mTup, mLst, mDct0, mCall, mRest, mRt, mRtN, mNx, mEx, mIte, mMut, mPut, mIt, bindT, bindTs, isAtom, isLst, isDK, plainAt, wipeE, backE, mFor, mLc, mDc, mWhile, mBk, mCt, mNo, mSl, mNoP, mPt, mJoin, mRng1, mRng2, mZip, mCallK, pickL, mMeth, mProp, mMake, mFld, fnI, fnIR, mDisp, mPairs, o2I, gtI, geI, leI, mStar, mStarT, mStarL, mAugI, mIndex]
  subst hF
  refine mFor_ev (ds := dS M.dots) (s1 := ⟨[some ⟨dMod M, false⟩, some ⟨.lst [], true⟩, none, none, none], r⟩) (by simp [fnM, fnR, ent, mSeq, mSet, mV, mC, mOp1, mOp2, mChain, mAnd, mOr, mNot, mIf, mArgs, escAll, esc, soft, pk, hard, put, puts, mHards, mPar, mTup, mLst, mDct0, mCall, mRest, mRt, mRtN, mNx, mEx, mIte, mMut, mPut, mIt, bindT, bindTs, isAtom, isLst, isDK, plainAt, wipeE, backE, mFor, mLc, mDc, mWhile, mBk, mCt, mNo, mSl, mNoP, mPt, mJoin, mRng1, mRng2, mZip, mCallK, pickL, mMeth, mProp, mMake, mFld, fnI, fnIR, mDisp, mPairs, o2I, gtI, geI, leI, mStar, mStarT, mStarL, mAugI, mIndex, idx_m2, itemsOf]) ?_
  let I : List D → S R → Prop := fun ds s => ∃ (pre post : List Str) (a2 : Option Cell), ds = dS post ∧ pre ++ post = M.dots ∧ s = ⟨[some ⟨dMod M, false⟩, some ⟨.lst (dS (pre.filter (chg M))), true⟩, a2, none, none], r⟩
  refine (for_ev I (fun fl s => fl = .nx ∧ I [] s) (fun d ds s hs => ?_) (fun s hs => ⟨rfl, hs⟩) _ _ ⟨[], M.dots, none, rfl, rfl, rfl⟩).mono ?_
  · obtain ⟨pre, post, a2, hd, g1, rfl⟩ := hs
    match post, hd, g1 with
    | x :: post, hd, g1 =>
      obtain ⟨rfl, rfl⟩ : d = .str x ∧ ds = dS post := List.cons.inj hd
      have hx : x ∈ M.dots := by rw [← g1]; simp
      have hlen : pre.length ≤ M.dots.length := by rw [← g1]; simp
      have hfl : (pre.filter (chg M)).length ≤ pre.length := List.length_filter_le _ _
      generalize hL : mLc _ _ _ _ _ = L
      have eL : L ⟨[some ⟨dMod M, false⟩, some ⟨.lst (dS (pre.filter (chg M))), true⟩, some ⟨.str x, false⟩, none, none], r⟩ = some (.tmp (.lst ((M.rows.filter fun p => !decide (look p.2.1 x = look p.2.2 x)).map fun _ => .int 1)), ⟨[some ⟨dMod M, false⟩, some ⟨.lst (dS (pre.filter (chg M))), true⟩, some ⟨.str x, false⟩, none, none], r⟩) := by
        rw [← hL]
        refine mLc_enc (fun p : Str × (Tab × Tab) => .tup [dT dO p.2.1, dT dO p.2.2]) (fun p => !decide (look p.2.1 x = look p.2.2 x)) (fun _ => .int 1) M.rows ?_ (by rfl) (fun p hp => ?_) (by have := hM.r2; unfold sizeLine; omega)
        · simp [fnM, fnR, ent, mSeq, mSet, mV, mC, mOp1, mOp2, mChain, mAnd, mOr, mNot, mIf, mArgs, escAll, esc, soft, pk, hard, put, puts, mHards, mPar, mTup, mLst, mDct0, mCall, mRest, mRt, mRtN, mNx, mEx, mIte, mMut, mPut, mIt, bindT, bindTs, isAtom, isLst, isDK, plainAt, wipeE, backE, mFor, mLc, mDc, mWhile, mBk, mCt, mNo, mSl, mNoP, mPt, mJoin, mRng1, mRng2, mZip, mCallK, pickL, mMeth, mProp, mMake, mFld, fnI, fnIR, mDisp, mPairs, o2I, gtI, geI, leI, mStar, mStarT, mStarL, mAugI, mIndex, idx_m1, vals_dT, dP]
        · obtain ⟨ht1, ht2⟩ := hM.tab p hp
          simp [fnM, fnR, ent, mSeq, mSet, mV, mC, mOp1, mOp2, mChain, mAnd, mOr, mNot, mIf, mArgs, escAll, esc, soft, pk, hard, put, puts, mHards, mPar, mTup, mLst, mDct0, mCall, mRest, mRt, mRtN, mNx, mEx, mIte, mMut, mPut, mIt, bindT, bindTs, isAtom, isLst, isDK, plainAt, wipeE, backE, mFor, mLc, mDc, mWhile, mBk, mCt, mNo, mSl, mNoP, mPt, mJoin, mRng1, mRng2, mZip, mCallK, pickL, mMeth, mProp, mMake, mFld, fnI, fnIR, mDisp, mPairs, o2I, gtI, geI, leI, mStar, mStarT, mStarL, mAugI, mIndex, idx_dT dO (tab_look ht1 hx).1, idx_dT dO (tab_look ht2 hx).1, ne_dO]
      have hne : (!decide (((M.rows.filter fun p => !decide (look p.2.1 x = look p.2.2 x)).map fun _ => D.int 1) = [])) = chg M x := by
        unfold chg
        cases hc : (M.rows.any fun p => !decide (look p.2.1 x = look p.2.2 x)) with
        | true =>
          obtain ⟨p, hp, hpc⟩ := List.any_eq_true.mp hc
          have : ((M.rows.filter fun p => !decide (look p.2.1 x = look p.2.2 x)).map fun _ => D.int 1) ≠ [] := fun z => by
            have z := List.map_eq_nil_iff.mp z
            have := List.filter_eq_nil_iff.mp z p hp
            exact this hpc
          simp only [decide_eq_false this, Bool.not_false]
        | false =>
          have : ((M.rows.filter fun p => !decide (look p.2.1 x = look p.2.2 x)).map fun _ => D.int 1) = [] := by
            rw [List.map_eq_nil_iff, List.filter_eq_nil_iff]
            intro p hp hpc
            have := List.any_eq_false.mp hc p hp
            exact this hpc
          simp only [decide_eq_true this, Bool.not_true]
      have hn := ne_lst_nil ((M.rows.filter fun p => !decide (look p.2.1 x = look p.2.2 x)).map fun _ => D.int 1)
      rw [hne] at hn
      have hap : (dS (pre.filter (chg M))).length < sizeLine := by rw [dS_length]; unfold sizeLine; omega
      cases hc : chg M x with
      | true =>
        rw [hc] at hn
        have hd2 : dS (pre.filter (chg M)) ++ [.str x] = dS ((pre ++ [x]).filter (chg M)) := by simp [dS, List.filter_append, hc]
        simp [fnM, fnR, ent, mSeq, mSet, mV, mC, mOp1, mOp2, mChain, mAnd, mOr, mNot, mIf, mArgs, escAll, esc, soft, pk, hard, put, puts, mHards, mPar, mTup, mLst, mDct0, mCall, mRest, mRt, mRtN, mNx, mEx, mIte, mMut, mPut, mIt, bindT, bindTs, isAtom, isLst, isDK, plainAt, wipeE, backE, mFor, mLc, mDc, mWhile, mBk, mCt, mNo, mSl, mNoP, mPt, mJoin, mRng1, mRng2, mZip, mCallK, pickL, mMeth, mProp, mMake, mFld, fnI, fnIR, mDisp, mPairs, o2I, gtI, geI, leI, mStar, mStarT, mStarL, mAugI, mIndex, eL, hn, appL, hap, hd2]
        exact ⟨pre ++ [x], post, _, rfl, by rw [← g1]; simp, by rw [List.filter_append]⟩
      | false =>
        rw [hc] at hn
        simp [fnM, fnR, ent, mSeq, mSet, mV, mC, mOp1, mOp2, mChain, mAnd, mOr, mNot, mIf, mArgs, escAll, esc, soft, pk, hard, put, puts, mHards, mPar, mTup, mLst, mDct0, mCall, mRest, mRt, mRtN, mNx, mEx, mIte, mMut, mPut, mIt, bindT, bindTs, isAtom, isLst, isDK, plainAt, wipeE, backE, mFor, mLc, mDc, mWhile, mBk, mCt, mNo, mSl, mNoP, mPt, mJoin, mRng1, mRng2, mZip, mCallK, pickL, mMeth, mProp, mMake, mFld, fnI, fnIR, mDisp, mPairs, o2I, gtI, geI, leI, mStar, mStarT, mStarL, mAugI, mIndex, eL, hn]
        exact ⟨pre ++ [x], post, _, rfl, by rw [← g1]; simp, by simp [List.filter_append, hc]; rfl⟩
  · rintro fl s ⟨rfl, pre, post, a2, hd, g1, rfl⟩
    have : post = [] := by
      cases post with
      | nil => rfl
      | cons => cases hd
    subst this
    simp only [List.append_nil] at g1
    subst g1
    simp [changing]
/-! ### rounds -/
structure RoundOk (M : Mod) (ready part : List Str) : Prop where
  r1 : Up ready
  r2 : ready.Nodup
  r3 : ∀ x ∈ ready, x ∈ changing M
  p1 : Up part
  p2 : part.Nodup
  p3 : ∀ x ∈ part, x ∈ changing M
  d : ∀ x ∈ part, x ∉ ready
  l : ready.length + part.length ≤ M.dots.length
theorem changing_len (M : Mod) : (changing M).length ≤ M.dots.length := List.length_filter_le _ _
theorem round_ok (hT : Draws T) {M : Mod} (hM : ModOk M) (r : R) : ∃ ready part r', RoundOk M ready part ∧ f__law_round T [.res, dMod M] r = some (.sh (.tup [.tup (dS ready), .tup (dS part)]), r') := by
  have d2 := hM.d2
  have hcl := changing_len M
  have hcn : (changing M).Nodup := hM.dn.sublist List.filter_sublist
  have q1 := moving_ok (T := T) hM r
  obtain ⟨ys, r1, hp, e1⟩ := mixedS_ok hT (changing M) (by omega) r
  have hyl := hp.length_eq
  have hyn : ys.Nodup := hp.nodup_iff.mpr hcn
  obtain ⟨k, r2, hk, e2⟩ := hT r1 ((ys.length : Int) + 1) (by omega) (by omega)
  have hk : k ≤ ys.length := by omega
  have c1 : cutL (dS ys) (some (k : Int)) none = dS (ys.drop k) := by rw [cut_from, dS_drop]
  have c2 : cutL (dS ys) none (some (k : Int)) = dS (ys.take k) := by rw [cut_to, dS_take]
  obtain ⟨j, r3, hj, e3⟩ := hT r2 (((ys.drop k).length : Int) + 1) (by omega) (by rw [List.length_drop]; omega)
  obtain ⟨d, r4, hd, e4⟩ := pick_ok hT [.int ((ys.drop k).length : Nat), .int (j : Nat)] (by simp) (by simp) r3
  obtain ⟨m, hm, rfl⟩ : ∃ m : Nat, m ≤ (ys.drop k).length ∧ d = .int m := by
    simp only [List.mem_cons, List.not_mem_nil, or_false] at hd
    rcases hd with rfl | rfl
    · exact ⟨_, Nat.le_refl _, rfl⟩
    · exact ⟨j, by omega, rfl⟩
  have c3 : cutL (dS (ys.drop k)) none (some (m : Int)) = dS ((ys.drop k).take m) := by rw [cut_to, dS_take]
  have s1 := sort_dS (xs := ys.take k) (by rw [List.length_take]; omega)
  have s2 := sort_dS (xs := (ys.drop k).take m) (by rw [List.length_take, List.length_drop]; omega)
  have tup_l : ∀ xs, tup1 (.lst xs) = some (.sh (.tup xs)) := fun _ => rfl
  refine ⟨sortS (ys.take k), sortS ((ys.drop k).take m), r4, ⟨sortS_pw _, sortS_nd (hyn.sublist (List.take_sublist _ _)), fun x hx => hp.mem_iff.mp (List.mem_of_mem_take (sortS_mem.mp hx)), sortS_pw _,
    sortS_nd (hyn.sublist ((List.take_sublist _ _).trans (List.drop_sublist _ _))), fun x hx => hp.mem_iff.mp (List.mem_of_mem_drop (List.mem_of_mem_take (sortS_mem.mp hx))), fun x hx hx2 => ?_, ?_⟩, ?_⟩
  · have h5 := List.mem_of_mem_take (sortS_mem.mp hx)
    have h6 := sortS_mem.mp hx2
    rw [← List.take_append_drop k ys] at hyn
    exact (List.nodup_append.mp hyn).2.2 x h6 x h5 rfl
  · rw [sortS_len, sortS_len, List.length_take, List.length_take, List.length_drop]; omega
  · unfold f__law_round m__law_round
    have hdl : ((dS (ys.drop k)).length : Int) = ((ys.drop k).length : Int) := by rw [dS_length]
    have hyl' : ((dS ys).length : Int) = (ys.length : Int) := by rw [dS_length]
    simp only [List.length_drop] at e3 e4
    have hdr : (dS (ys.drop k)).length = ys.length - k := by rw [dS_length, List.length_drop]
    simp [fnM, fnR, ent, mSeq, mSet, mV, mC, mOp1, mOp2, mChain, mAnd, mOr, mNot, mIf, mArgs, escAll, esc, soft, pk, hard, put, puts, mHards, mPar, mTup, mLst, mDct0, mCall, mRest, mRt, mRtN, mNx, mEx, mIte, mMut, mPut, mIt, bindT, bindTs, isAtom, isLst, isDK, plainAt, wipeE, backE, mFor, mLc, mDc, mWhile, mBk, mCt, mNo, mSl, mNoP, mPt, mJoin, mRng1, mRng2, mZip, mCallK, pickL, mMeth, mProp, mMake, mFld, fnI, fnIR, mDisp, mPairs, o2I, gtI, geI, leI, mStar, mStarT, mStarL, mAugI, mIndex, q1, e1, len_lst, dS_length, addD, e2, cutD, c1, hdr, e3, e4, c2, s1, tup_l, c3, s2]
end
end RW
namespace RW
open PySem L2
section
variable {R : Type} {T : Fm R}
theorem mUnp_ok {Tt : Tg} {ma : M R Vr} {s s1 s2 : S R} {v : Vr} {d : D} {e' : List (Option Cell)} (h1 : ma s = some (v, s1)) (h2 : esc (soft v) s1 = some (d, s2)) (h3 : bindT Tt d s2.e = some e') : mUnp Tt ma s = some (.nx, { s2 with e := e' }) := by
  unfold mUnp
  rw [h1]
  show (esc (soft v) s1).bind _ = _
  rw [h2]
  show Option.map _ (bindT Tt d s2.e) = _
  rw [h3]; rfl
/-! ### lots, goals, nodes -/
theorem fld1 (M : Mod) : fldD 0 "own_tables" (netD M) = some (.sh (dT dP (ordR M))) := rfl
theorem fld2 (M : Mod) : fldD 0 "own_goals" (netD M) = some (.sh (.tup (dS (M.rows.map (·.1))))) := rfl
theorem fld3 (M : Mod) : fldD 0 "own_nodes" (netD M) = some (.sh (.tup (dS M.dots))) := rfl
theorem fld4 (M : Mod) : fldD 0 "own_sources" (netD M) = some (.sh (.tup (dS M.sources))) := rfl
theorem fld5 (M : Mod) : fldD 0 "own_posts" (netD M) = some (.sh (.tup (dS M.posts))) := rfl
theorem fld6 (M : Mod) : fldD 0 "own_changing" (netD M) = some (.sh (.tup (dS (changing M)))) := rfl
theorem isi_net (M : Mod) : isiC 0 (netD M) = some (.sh (.bl true)) := rfl
theorem lt_of_le {a b : Str} (h : leS a b = true) (hne : a ≠ b) : a.cps.toList < b.cps.toList := by
  have h2 : leS b a = false := by
    cases q : leS b a with
    | false => rfl
    | true => exact absurd (leS_anti h q) hne
  unfold leS at h2
  have h3 : PySem.Spec.ltCps a.cps.toList b.cps.toList = true := by simpa using h2
  rw [PyProof.Rows.ltCps_eq] at h3
  exact of_decide_eq_true h3
theorem cut_1 {α : Type} (xs : List α) : cutL xs (some 1) none = xs.tail := by
  have := cut_from xs 1
  rwa [List.drop_one] at this
theorem zip_tail_mem {α : Type} {P : α → α → Prop} : ∀ {xs : List α}, xs.Pairwise P → ∀ p ∈ xs.zip (xs.tail), P p.1 p.2
  | [], _, p, hp => by cases hp
  | [x], _, p, hp => by cases hp
  | x :: y :: xs, h, p, hp => by
    have hp : p ∈ (x, y) :: (y :: xs).zip ((y :: xs).tail) := hp
    rcases List.mem_cons.mp hp with rfl | hp
    · exact (List.pairwise_cons.mp h).1 y List.mem_cons_self
    · exact zip_tail_mem (List.pairwise_cons.mp h).2 p hp
theorem up_lt {xs : List Str} (hu : Up xs) (hn : xs.Nodup) : xs.Pairwise fun a b => a.cps.toList < b.cps.toList := by
  have := List.Pairwise.and hu hn
  exact this.imp fun h => lt_of_le h.1 h.2
theorem is_lot_ok {M : Mod} (hM : ModOk M) {xs : List Str} (hu : Up xs) (hn : xs.Nodup) (hs : ∀ x ∈ xs, x ∈ changing M) (r : R) : f_is_lot T [netD M, .tup (dS xs)] r = some (.sh (.bl true), r) := by
  have d2 := hM.d2
  have hcl := changing_len M
  have hl : xs.length ≤ (changing M).length := sub_len hn hs
  unfold f_is_lot m_is_lot
  generalize hL1 : mLc [4] _ _ _ _ = L1
  generalize hL2 : mLc [2, 3] _ _ _ _ = L2
  have eL1 : L1 ⟨[some ⟨netD M, false⟩, some ⟨.tup (dS xs), false⟩, none, none, none], r⟩ = some (.tmp (.lst (xs.map fun _ => .bl true)), ⟨[some ⟨netD M, false⟩, some ⟨.tup (dS xs), false⟩, none, none, none], r⟩) := by
    rw [← hL1]
    refine mLc_all D.str (fun _ => .bl true) xs ?_ (by rfl) (fun x hx => ?_) (by unfold sizeLine; omega)
    · simp [fnM, fnR, ent, mSeq, mSet, mV, mC, mOp1, mOp2, mChain, mAnd, mOr, mNot, mIf, mArgs, escAll, esc, soft, pk, hard, put, puts, mHards, mPar, mTup, mLst, mDct0, mCall, mRest, mRt, mRtN, mNx, mEx, mIte, mMut, mPut, mIt, bindT, bindTs, isAtom, isLst, isDK, plainAt, wipeE, backE, mFor, mLc, mDc, mWhile, mBk, mCt, mNo, mSl, mNoP, mPt, mJoin, mRng1, mRng2, mZip, mCallK, pickL, mMeth, mProp, mMake, mFld, fnI, fnIR, mDisp, mPairs, o2I, gtI, geI, leI, mStar, mStarT, mStarL, mAugI, mIndex, itemsOf, dS]
    · simp [fnM, fnR, ent, mSeq, mSet, mV, mC, mOp1, mOp2, mChain, mAnd, mOr, mNot, mIf, mArgs, escAll, esc, soft, pk, hard, put, puts, mHards, mPar, mTup, mLst, mDct0, mCall, mRest, mRt, mRtN, mNx, mEx, mIte, mMut, mPut, mIt, bindT, bindTs, isAtom, isLst, isDK, plainAt, wipeE, backE, mFor, mLc, mDc, mWhile, mBk, mCt, mNo, mSl, mNoP, mPt, mJoin, mRng1, mRng2, mZip, mCallK, pickL, mMeth, mProp, mMake, mFld, fnI, fnIR, mDisp, mPairs, o2I, gtI, geI, leI, mStar, mStarT, mStarL, mAugI, mIndex, isi_str, fld6, inD, in_tup, hs x hx]
  have eL2 : L2 ⟨[some ⟨netD M, false⟩, some ⟨.tup (dS xs), false⟩, none, none, none], r⟩ = some (.tmp (.lst ((xs.zip (xs.tail)).map fun _ => .bl true)), ⟨[some ⟨netD M, false⟩, some ⟨.tup (dS xs), false⟩, none, none, none], r⟩) := by
    rw [← hL2]
    refine mLc_all (fun p : Str × Str => .tup [.str p.1, .str p.2]) (fun _ => .bl true) (xs.zip (xs.tail)) ?_ (by rfl) (fun p hp => ?_) (by rw [List.length_zip]; unfold sizeLine; omega)
    · have hz : zipOf (dS xs) (dS (xs.tail)) = (xs.zip (xs.tail)).map fun p => .tup [.str p.1, .str p.2] := by
        unfold zipOf dS
        rw [List.zip_map, List.map_map]; rfl
      simp [fnM, fnR, ent, mSeq, mSet, mV, mC, mOp1, mOp2, mChain, mAnd, mOr, mNot, mIf, mArgs, escAll, esc, soft, pk, hard, put, puts, mHards, mPar, mTup, mLst, mDct0, mCall, mRest, mRt, mRtN, mNx, mEx, mIte, mMut, mPut, mIt, bindT, bindTs, isAtom, isLst, isDK, plainAt, wipeE, backE, mFor, mLc, mDc, mWhile, mBk, mCt, mNo, mSl, mNoP, mPt, mJoin, mRng1, mRng2, mZip, mCallK, pickL, mMeth, mProp, mMake, mFld, fnI, fnIR, mDisp, mPairs, o2I, gtI, geI, leI, mStar, mStarT, mStarL, mAugI, mIndex, cutD, cut_1, zipI]
      rw [← hz]
      simp [dS]
    · have := zip_tail_mem (up_lt hu hn) p hp
      have hlt : ltD (.str p.1) (.str p.2) = some (.sh (.bl true)) := by simp only [ltD, decide_eq_true this]
      simp [fnM, fnR, ent, mSeq, mSet, mV, mC, mOp1, mOp2, mChain, mAnd, mOr, mNot, mIf, mArgs, escAll, esc, soft, pk, hard, put, puts, mHards, mPar, mTup, mLst, mDct0, mCall, mRest, mRt, mRtN, mNx, mEx, mIte, mMut, mPut, mIt, bindT, bindTs, isAtom, isLst, isDK, plainAt, wipeE, backE, mFor, mLc, mDc, mWhile, mBk, mCt, mNo, mSl, mNoP, mPt, mJoin, mRng1, mRng2, mZip, mCallK, pickL, mMeth, mProp, mMake, mFld, fnI, fnIR, mDisp, mPairs, o2I, gtI, geI, leI, mStar, mStarT, mStarL, mAugI, mIndex, hlt]
  simp [fnM, fnR, ent, mSeq, mSet, mV, mC, mOp1, mOp2, mChain, mAnd, mOr, mNot, mIf, mArgs, escAll, esc, soft, pk, hard, put, puts, mHards, mPar, mTup, mLst, mDct0, mCall, mRest, mRt, mRtN, mNx, mEx, mIte, mMut, mPut, mIt, bindT, bindTs, isAtom, isLst, isDK, plainAt, wipeE, backE, mFor, mLc, mDc, mWhile, mBk, mCt, mNo, mSl, mNoP, mPt, mJoin, mRng1, mRng2, mZip, mCallK, pickL, mMeth, mProp, mMake, mFld, fnI, fnIR, mDisp, mPairs, o2I, gtI, geI, leI, mStar, mStarT, mStarL, mAugI, mIndex, isi_tup, eL1, eL2, all_true]
theorem need_net_ok (M : Mod) (r : R) : f_need_net T [netD M] r = some (.sh .non, r) := by
  simp [f_need_net, m_need_net, fnM, fnR, ent, mSeq, mSet, mV, mC, mOp1, mOp2, mChain, mAnd, mOr, mNot, mIf, mArgs, escAll, esc, soft, pk, hard, put, puts, mHards, mPar, mTup, mLst, mDct0, mCall, mRest, mRt, mRtN, mNx, mEx, mIte, mMut, mPut, mIt, bindT, bindTs, isAtom, isLst, isDK, plainAt, wipeE, backE, mFor, mLc, mDc, mWhile, mBk, mCt, mNo, mSl, mNoP, mPt, mJoin, mRng1, mRng2, mZip, mCallK, pickL, mMeth, mProp, mMake, mFld, fnI, fnIR, mDisp, mPairs, o2I, gtI, geI, leI, mStar, mStarT, mStarL, mAugI, mIndex, isi_net]
theorem need_done_ok {M : Mod} (hM : ModOk M) {xs : List Str} (hu : Up xs) (hn : xs.Nodup) (hs : ∀ x ∈ xs, x ∈ changing M) (r : R) : f_need_done T [netD M, .tup (dS xs)] r = some (.sh .non, r) := by
  simp [f_need_done, m_need_done, fnM, fnR, ent, mSeq, mSet, mV, mC, mOp1, mOp2, mChain, mAnd, mOr, mNot, mIf, mArgs, escAll, esc, soft, pk, hard, put, puts, mHards, mPar, mTup, mLst, mDct0, mCall, mRest, mRt, mRtN, mNx, mEx, mIte, mMut, mPut, mIt, bindT, bindTs, isAtom, isLst, isDK, plainAt, wipeE, backE, mFor, mLc, mDc, mWhile, mBk, mCt, mNo, mSl, mNoP, mPt, mJoin, mRng1, mRng2, mZip, mCallK, pickL, mMeth, mProp, mMake, mFld, fnI, fnIR, mDisp, mPairs, o2I, gtI, geI, leI, mStar, mStarT, mStarL, mAugI, mIndex, is_lot_ok hM hu hn hs]
theorem need_goal_ok {M : Mod} {x : Str} (hx : x ∈ M.rows.map (·.1)) (r : R) : f_need_goal T [netD M, .str x] r = some (.sh .non, r) := by
  have := in_tup x (M.rows.map (·.1))
  rw [decide_eq_true hx] at this
  simp [f_need_goal, m_need_goal, fnM, fnR, ent, mSeq, mSet, mV, mC, mOp1, mOp2, mChain, mAnd, mOr, mNot, mIf, mArgs, escAll, esc, soft, pk, hard, put, puts, mHards, mPar, mTup, mLst, mDct0, mCall, mRest, mRt, mRtN, mNx, mEx, mIte, mMut, mPut, mIt, bindT, bindTs, isAtom, isLst, isDK, plainAt, wipeE, backE, mFor, mLc, mDc, mWhile, mBk, mCt, mNo, mSl, mNoP, mPt, mJoin, mRng1, mRng2, mZip, mCallK, pickL, mMeth, mProp, mMake, mFld, fnI, fnIR, mDisp, mPairs, o2I, gtI, geI, leI, mStar, mStarT, mStarL, mAugI, mIndex, isi_str, fld2, ninD, this]
theorem need_node_ok {M : Mod} {x : Str} (hx : x ∈ M.dots) (r : R) : f_need_node T [netD M, .str x] r = some (.sh .non, r) := by
  simp [f_need_node, m_need_node, fnM, fnR, ent, mSeq, mSet, mV, mC, mOp1, mOp2, mChain, mAnd, mOr, mNot, mIf, mArgs, escAll, esc, soft, pk, hard, put, puts, mHards, mPar, mTup, mLst, mDct0, mCall, mRest, mRt, mRtN, mNx, mEx, mIte, mMut, mPut, mIt, bindT, bindTs, isAtom, isLst, isDK, plainAt, wipeE, backE, mFor, mLc, mDc, mWhile, mBk, mCt, mNo, mSl, mNoP, mPt, mJoin, mRng1, mRng2, mZip, mCallK, pickL, mMeth, mProp, mMake, mFld, fnI, fnIR, mDisp, mPairs, o2I, gtI, geI, leI, mStar, mStarT, mStarL, mAugI, mIndex, isi_str, fld3, ninD, in_tup, hx]
/-! ### ways at a moment -/
theorem ordR_look {M : Mod} (hM : ModOk M) {e : Str} {p : Tab × Tab} (hp : (e, p) ∈ M.rows) : (ordR M).lookup e = some (ordT M.dots p.1, ordT M.dots p.2) := by
  have : (e, (ordT M.dots p.1, ordT M.dots p.2)) ∈ ordR M := List.mem_map.mpr ⟨(e, p), hp, rfl⟩
  have hn : ((ordR M).map (·.1)).Nodup := by
    unfold ordR
    rw [List.map_map]
    exact hM.rn
  exact lookup_of_mem hn this
end
end RW
namespace RW
open PySem L2
/-! ### walks -/
section
variable {R : Type} {T : Fm R}
def lO (q : List (Option Str)) : List D := q.map dO
theorem toVs_O : ∀ xs : List (Option Str), toVs (xs.map dO) = some (xs.map fun x => match x with | some z => V.str z | none => V.non)
  | [] => rfl
  | x :: xs => by
    rw [List.map_cons]
    show (toV (dO x)).bind (fun v => (toVs (xs.map dO)).map fun vs => v :: vs) = _
    rw [toVs_O xs]
    cases x <;> rfl
theorem in_lstO (y : Option Str) (q : List (Option Str)) : inB (dO y) (.lst (lO q)) = some (decide (y ∈ q)) := by
  unfold lO
  have e : inB (dO y) (.lst (q.map dO)) = (toV (dO y)).bind fun v => (toVs (q.map dO)).map fun vs => inV v vs := by cases y <;> rfl
  rw [e, toVs_O]
  clear e
  have key : ∀ v, toV (dO y) = some v → inV v (q.map fun x => match x with | some z => V.str z | none => V.non) = decide (y ∈ q) := by
    intro v hv
    unfold inV
    induction q with
    | nil => rfl
    | cons a q ih =>
      rw [List.map_cons, List.any_cons, ih]
      cases y with
      | none =>
        cases hv
        cases a <;> simp [eqV]
      | some y =>
        cases hv
        cases a with
        | none => simp [eqV]
        | some a =>
          by_cases h : a = y
          · subst h; simp [eqV]
          · simp [eqV, h, beq_eq_false_iff_ne.mpr h, Ne.symm h]
  cases y with
  | none => simp [dO, toV]; exact key .non rfl
  | some y => simp [dO, toV]; exact key (.str y) rfl
structure WOkP (dots : List Str) (q : List (Option Str)) (y : Option Str) : Prop where
  nd : (q ++ [y]).Nodup
  sub : ∀ z ∈ q, z ∈ dots.map some
theorem WOkP.len {dots : List Str} {q : List (Option Str)} {y : Option Str} (h : WOkP dots q y) : q.length ≤ dots.length := by
  have hn : q.Nodup := (List.nodup_append.mp h.nd).1
  have := sub_len hn h.sub
  simpa using this
end
end RW
namespace RW
open PySem L2
/-! ### the draws -/
theorem pow18 : iPow 10 18 = some (.int 1000000000000000000) := by
  unfold iPow
  rw [if_pos (by decide)]
  rfl
theorem mul_r (i : Int) {j : Int} (h : j.natAbs < 18446744073709551616) : iMul i j = some (.int (i * j)) := by unfold iMul; rw [if_pos (.inr h)]
theorem div_ok (i : Int) {j : Int} (h : 0 < j) (h2 : j.natAbs < 1073741824) : iDiv i j = some (.int (i / j)) := by unfold iDiv; rw [if_pos ⟨h, h2⟩]
theorem mod_ok (i : Int) {j : Int} (h : 0 < j) : iMod i j = some (.int (i % j)) := by unfold iMod; rw [if_pos h]
theorem pow5 {b : Int} (h : b.natAbs < 18446744073709551616) : iPow b 5 = some (.int (b ^ 5)) := by
  unfold iPow
  rw [if_pos ⟨by decide, by decide, by omega⟩]
  rfl
theorem mul_int (i : Int) {j : Int} (h : j.natAbs < 18446744073709551616) : mulD (.int i) (.int j) = some (.sh (.int (i * j))) := by simp [mulD, mul_r i h]
theorem begin_ok (nl : Nat) : ∀ ns : List Int, ns.length ≤ 63 → ∃ r, m_begin1 ⟨lawE nl ns none, ()⟩ = some (.nx, ⟨lawE nl ns (some ⟨drD r, true⟩), ()⟩) := by
  intro ns hns
  let ab : Int → Int := fun i => if i < 0 then -i else i
  let r : Dr := ⟨((ns.filter fun i => decide (1000000000000000000 ≤ ab i)).map fun i => ab i - 1000000000000000000), 0, ns.map ab, 0⟩
  refine ⟨r, ?_⟩
  have hb : f__law_begin (R := Unit) (fun _ _ => none) [.scr ns] () = some (.tmp (drD r), ()) := by
    unfold f__law_begin m__law_begin
    generalize hL1 : mLc _ _ _ (mOp2 _ _ _) _ = L1
    generalize hL2 : mLc _ _ _ _ _ = L2
    have eL1 : L1 ⟨[some ⟨.scr ns, false⟩, none, none], ()⟩ = some (.tmp (.lst ((ns.filter fun i => decide (1000000000000000000 ≤ ab i)).map fun i => .int (ab i - 1000000000000000000))), ⟨[some ⟨.scr ns, false⟩, none, none], ()⟩) := by
      rw [← hL1]
      refine mLc_enc D.int (fun i => decide (1000000000000000000 ≤ ab i)) (fun i => .int (ab i - 1000000000000000000)) ns ?_ (by rfl) (fun i hi => ?_) (by unfold sizeLine; omega)
      · simp [fnM, fnR, ent, mSeq, mSet, mV, mC, mOp1, mOp2, mChain, mAnd, mOr, mNot, mIf, mArgs, escAll, esc, soft, pk, hard, put, puts, mHards, mPar, mTup, mLst, mDct0, mCall, mRest, mRt, mRtN, mNx, mEx, mIte, mMut, mPut, mIt, bindT, bindTs, isAtom, isLst, isDK, plainAt, wipeE, backE, mFor, mLc, mDc, mWhile, mBk, mCt, mNo, mSl, mNoP, mPt, mJoin, mRng1, mRng2, mZip, mCallK, pickL, mMeth, mProp, mMake, mFld, fnI, fnIR, mDisp, mPairs, o2I, gtI, geI, leI, mStar, mStarT, mStarL, mAugI, mIndex, itemsOf]
      · simp [fnM, fnR, ent, mSeq, mSet, mV, mC, mOp1, mOp2, mChain, mAnd, mOr, mNot, mIf, mArgs, escAll, esc, soft, pk, hard, put, puts, mHards, mPar, mTup, mLst, mDct0, mCall, mRest, mRt, mRtN, mNx, mEx, mIte, mMut, mPut, mIt, bindT, bindTs, isAtom, isLst, isDK, plainAt, wipeE, backE, mFor, mLc, mDc, mWhile, mBk, mCt, mNo, mSl, mNoP, mPt, mJoin, mRng1, mRng2, mZip, mCallK, pickL, mMeth, mProp, mMake, mFld, fnI, fnIR, mDisp, mPairs, o2I, gtI, geI, leI, mStar, mStarT, mStarL, mAugI, mIndex, absD, pow18, ab]
    have eL2 : ∀ a1, L2 ⟨[some ⟨.scr ns, false⟩, a1, none], ()⟩ = some (.tmp (.lst (ns.map fun i => .int (ab i))), ⟨[some ⟨.scr ns, false⟩, a1, none], ()⟩) := fun a1 => by
      rw [← hL2]
      refine mLc_all D.int (fun i => .int (ab i)) ns ?_ (by rfl) (fun i hi => ?_) (by unfold sizeLine; omega)
      · simp [fnM, fnR, ent, mSeq, mSet, mV, mC, mOp1, mOp2, mChain, mAnd, mOr, mNot, mIf, mArgs, escAll, esc, soft, pk, hard, put, puts, mHards, mPar, mTup, mLst, mDct0, mCall, mRest, mRt, mRtN, mNx, mEx, mIte, mMut, mPut, mIt, bindT, bindTs, isAtom, isLst, isDK, plainAt, wipeE, backE, mFor, mLc, mDc, mWhile, mBk, mCt, mNo, mSl, mNoP, mPt, mJoin, mRng1, mRng2, mZip, mCallK, pickL, mMeth, mProp, mMake, mFld, fnI, fnIR, mDisp, mPairs, o2I, gtI, geI, leI, mStar, mStarT, mStarL, mAugI, mIndex, itemsOf]
      · simp [fnM, fnR, ent, mSeq, mSet, mV, mC, mOp1, mOp2, mChain, mAnd, mOr, mNot, mIf, mArgs, escAll, esc, soft, pk, hard, put, puts, mHards, mPar, mTup, mLst, mDct0, mCall, mRest, mRt, mRtN, mNx, mEx, mIte, mMut, mPut, mIt, bindT, bindTs, isAtom, isLst, isDK, plainAt, wipeE, backE, mFor, mLc, mDc, mWhile, mBk, mCt, mNo, mSl, mNoP, mPt, mJoin, mRng1, mRng2, mZip, mCallK, pickL, mMeth, mProp, mMake, mFld, fnI, fnIR, mDisp, mPairs, o2I, gtI, geI, leI, mStar, mStarT, mStarL, mAugI, mIndex, absD, ab]
    have hdisp : ∀ a b c d : D, List.foldl (fun acc (kv : Key × D) => putE acc (keyD kv.1) kv.2) [] [((Sum.inr "great" : Key), a), (Sum.inr "rest", b), (Sum.inr "cells", c), (Sum.inr "turn", d)] = [(.str "great", a), (.str "rest", b), (.str "cells", c), (.str "turn", d)] := fun a b c d => rfl
    simp only [List.foldl_cons, List.foldl_nil] at hdisp
    simp [fnM, fnR, ent, mSeq, mSet, mV, mC, mOp1, mOp2, mChain, mAnd, mOr, mNot, mIf, mArgs, escAll, esc, soft, pk, hard, put, puts, mHards, mPar, mTup, mLst, mDct0, mCall, mRest, mRt, mRtN, mNx, mEx, mIte, mMut, mPut, mIt, bindT, bindTs, isAtom, isLst, isDK, plainAt, wipeE, backE, mFor, mLc, mDc, mWhile, mBk, mCt, mNo, mSl, mNoP, mPt, mJoin, mRng1, mRng2, mZip, mCallK, pickL, mMeth, mProp, mMake, mFld, fnI, fnIR, mDisp, mPairs, o2I, gtI, geI, leI, mStar, mStarT, mStarL, mAugI, mIndex, eL1, eL2, kOf, keyD, drD, r, Function.comp_def]
    exact hdisp _ _ _ _
  unfold m_begin1 lawE
  simp [fnM, fnR, ent, mSeq, mSet, mV, mC, mOp1, mOp2, mChain, mAnd, mOr, mNot, mIf, mArgs, escAll, esc, soft, pk, hard, put, puts, mHards, mPar, mTup, mLst, mDct0, mCall, mRest, mRt, mRtN, mNx, mEx, mIte, mMut, mPut, mIt, bindT, bindTs, isAtom, isLst, isDK, plainAt, wipeE, backE, mFor, mLc, mDc, mWhile, mBk, mCt, mNo, mSl, mNoP, mPt, mJoin, mRng1, mRng2, mZip, mCallK, pickL, mMeth, mProp, mMake, mFld, fnI, fnIR, mDisp, mPairs, o2I, gtI, geI, leI, mStar, mStarT, mStarL, mAugI, mIndex, hb]
theorem blendR_ok (r : Dr) (t : Int) : Ev (m_blendR ⟨[some ⟨drD r, false⟩, some ⟨.int t, false⟩, none, none, none, none], ()⟩) (fun fl s => ∃ n : Int, fl = .rt (.sh (.int n))) := by
  unfold m_blendR
  generalize hF : mFor _ _ _ = F1
  simp [fnM, fnR, ent, mSeq, mSet, mV, mC, mOp1, mOp2, mChain, mAnd, mOr, mNot, mIf, mArgs, escAll, esc, soft, pk, hard, put, puts, mHards, mPar, mTup, mLst, mDct0, mCall, mRest, mRt, mRtN, mNx, mEx, mIte, mMut, mPut, mIt, bindT, bindTs, isAtom, isLst, isDK, plainAt, wipeE, backE, mFor, mLc, mDc, mWhile, mBk, mCt, mNo, mSl, mNoP, mPt, mJoin, mRng1, mRng2, mZip, mCallK, pickL, mMeth, mProp, mMake, mFld, fnI, fnIR, mDisp, mPairs, o2I, gtI, geI, leI, mStar, mStarT, mStarL, mAugI, mIndex]
  subst hF
  refine mFor_ev (ds := [.int 2147483629, .int 2147483587, .int 2147483579, .int 2147483563]) (s1 := ⟨[some ⟨drD r, false⟩, some ⟨.int t, false⟩, some ⟨.int 0, false⟩, none, none, none], ()⟩) (by simp [fnM, fnR, ent, mSeq, mSet, mV, mC, mOp1, mOp2, mChain, mAnd, mOr, mNot, mIf, mArgs, escAll, esc, soft, pk, hard, put, puts, mHards, mPar, mTup, mLst, mDct0, mCall, mRest, mRt, mRtN, mNx, mEx, mIte, mMut, mPut, mIt, bindT, bindTs, isAtom, isLst, isDK, plainAt, wipeE, backE, mFor, mLc, mDc, mWhile, mBk, mCt, mNo, mSl, mNoP, mPt, mJoin, mRng1, mRng2, mZip, mCallK, pickL, mMeth, mProp, mMake, mFld, fnI, fnIR, mDisp, mPairs, o2I, gtI, geI, leI, mStar, mStarT, mStarL, mAugI, mIndex, itemsOf]) ?_
  let I : List D → S Unit → Prop := fun ds s => (∀ d ∈ ds, ∃ p : Int, d = .int p ∧ 0 < p ∧ p < 2147483648) ∧ ∃ (f : Int) (a3 a4 a5 : Option Cell), s = ⟨[some ⟨drD r, false⟩, some ⟨.int t, false⟩, some ⟨.int f, false⟩, a3, a4, a5], ()⟩
  refine (for_ev I (fun fl s => fl = .nx ∧ I [] s) (fun d ds s hs => ?_) (fun s hs => ⟨rfl, hs⟩) _ _ ⟨?_, 0, none, none, none, rfl⟩).mono ?_
  · obtain ⟨hd, f, a3, a4, a5, rfl⟩ := hs
    obtain ⟨p, rfl, hp0, hp1⟩ := hd _ List.mem_cons_self
    have hds := fun d h => hd d (List.mem_cons_of_mem _ h)
    have hpn : p.natAbs < 18446744073709551616 := by omega
    generalize hG : mFor _ _ _ = F2
    have eG : ∀ b a5, 0 ≤ b → b < p → Ev (F2 ⟨[some ⟨drD r, false⟩, some ⟨.int t, false⟩, some ⟨.int f, false⟩, some ⟨.int p, false⟩, some ⟨.int b, false⟩, a5], ()⟩) (fun fl s => fl = .nx ∧ ∃ b a5, 0 ≤ b ∧ b < p ∧ s = ⟨[some ⟨drD r, false⟩, some ⟨.int t, false⟩, some ⟨.int f, false⟩, some ⟨.int p, false⟩, some ⟨.int b, false⟩, a5], ()⟩) := by
      intro b a5 hb0 hb1
      rw [← hG]
      have hix : idxD (drD r) (.str "cells") = some (.sh (.lst (r.cells.map .int))) := rfl
      refine mFor_ev (ds := r.cells.map D.int) (s1 := ⟨[some ⟨drD r, false⟩, some ⟨.int t, false⟩, some ⟨.int f, false⟩, some ⟨.int p, false⟩, some ⟨.int b, false⟩, a5], ()⟩) (by simp [fnM, fnR, ent, mSeq, mSet, mV, mC, mOp1, mOp2, mChain, mAnd, mOr, mNot, mIf, mArgs, escAll, esc, soft, pk, hard, put, puts, mHards, mPar, mTup, mLst, mDct0, mCall, mRest, mRt, mRtN, mNx, mEx, mIte, mMut, mPut, mIt, bindT, bindTs, isAtom, isLst, isDK, plainAt, wipeE, backE, mFor, mLc, mDc, mWhile, mBk, mCt, mNo, mSl, mNoP, mPt, mJoin, mRng1, mRng2, mZip, mCallK, pickL, mMeth, mProp, mMake, mFld, fnI, fnIR, mDisp, mPairs, o2I, gtI, geI, leI, mStar, mStarT, mStarL, mAugI, mIndex, hix, itemsOf]) ?_
      refine for_ev (fun ds s => (∃ cs : List Int, ds = cs.map D.int) ∧ ∃ b a5, 0 ≤ b ∧ b < p ∧ s = ⟨[some ⟨drD r, false⟩, some ⟨.int t, false⟩, some ⟨.int f, false⟩, some ⟨.int p, false⟩, some ⟨.int b, false⟩, a5], ()⟩) _ (fun d ds s hs => ?_) (fun s hs => ⟨rfl, hs.2⟩) _ _ ⟨⟨r.cells, rfl⟩, b, a5, hb0, hb1, rfl⟩
      obtain ⟨⟨cs, hcs⟩, b, a5, hb0, hb1, rfl⟩ := hs
      match cs, hcs with
      | c :: cs, hcs =>
        obtain ⟨rfl, rfl⟩ : d = .int c ∧ ds = cs.map D.int := List.cons.inj hcs
        simp [fnM, fnR, ent, mSeq, mSet, mV, mC, mOp1, mOp2, mChain, mAnd, mOr, mNot, mIf, mArgs, escAll, esc, soft, pk, hard, put, puts, mHards, mPar, mTup, mLst, mDct0, mCall, mRest, mRt, mRtN, mNx, mEx, mIte, mMut, mPut, mIt, bindT, bindTs, isAtom, isLst, isDK, plainAt, wipeE, backE, mFor, mLc, mDc, mWhile, mBk, mCt, mNo, mSl, mNoP, mPt, mJoin, mRng1, mRng2, mZip, mCallK, pickL, mMeth, mProp, mMake, mFld, fnI, fnIR, mDisp, mPairs, o2I, gtI, geI, leI, mStar, mStarT, mStarL, mAugI, mIndex, mul_int b (j := 48271) (by decide), addD, intD, mod_ok _ hp0]
        exact ⟨⟨cs, rfl⟩, Int.emod_nonneg _ (by omega), Int.emod_lt_of_pos _ hp0⟩
    obtain ⟨fl, s, e, rfl, b, a5', hb0, hb1, rfl⟩ := eG ((t * 69621 + p / 7) % p) a5 (Int.emod_nonneg _ (by omega)) (Int.emod_lt_of_pos _ hp0)
    simp [fnM, fnR, ent, mSeq, mSet, mV, mC, mOp1, mOp2, mChain, mAnd, mOr, mNot, mIf, mArgs, escAll, esc, soft, pk, hard, put, puts, mHards, mPar, mTup, mLst, mDct0, mCall, mRest, mRt, mRtN, mNx, mEx, mIte, mMut, mPut, mIt, bindT, bindTs, isAtom, isLst, isDK, plainAt, wipeE, backE, mFor, mLc, mDc, mWhile, mBk, mCt, mNo, mSl, mNoP, mPt, mJoin, mRng1, mRng2, mZip, mCallK, pickL, mMeth, mProp, mMake, mFld, fnI, fnIR, mDisp, mPairs, o2I, gtI, geI, leI, mStar, mStarT, mStarL, mAugI, mIndex, mul_int t (j := 69621) (by decide), div_ok p (j := 7) (by decide) (by decide), addD, intD, mod_ok _ hp0, e, mul_int f (j := 2147483647) (by decide), pow5 (b := b) (by omega)]
    exact ⟨hds, _, _, _, _, rfl⟩
  · intro d hd
    simp only [List.mem_cons, List.not_mem_nil, or_false] at hd
    rcases hd with rfl | rfl | rfl | rfl
    · exact ⟨_, rfl, by decide, by decide⟩
    · exact ⟨_, rfl, by decide, by decide⟩
    · exact ⟨_, rfl, by decide, by decide⟩
    · exact ⟨_, rfl, by decide, by decide⟩
  · rintro fl s ⟨rfl, _, f, a3, a4, a5, rfl⟩
    simp
theorem blend_ok (r : Dr) : ∃ n r', f_blend [.res] r = some (.sh (.int n), r') := by
  obtain ⟨fl, s, e, n, rfl⟩ := blendR_ok { r with turn := r.turn + 1 } (r.turn + 1)
  refine ⟨n, { r with turn := r.turn + 1 }, ?_⟩
  unfold f_blend m_blend
  generalize hB : m_blendR = B at e
  simp [fnM, fnR, ent, mSeq, mSet, mV, mC, mOp1, mOp2, mChain, mAnd, mOr, mNot, mIf, mArgs, escAll, esc, soft, pk, hard, put, puts, mHards, mPar, mTup, mLst, mDct0, mCall, mRest, mRt, mRtN, mNx, mEx, mIte, mMut, mPut, mIt, bindT, bindTs, isAtom, isLst, isDK, plainAt, wipeE, backE, mFor, mLc, mDc, mWhile, mBk, mCt, mNo, mSl, mNoP, mPt, mJoin, mRng1, mRng2, mZip, mCallK, pickL, mMeth, mProp, mMake, mFld, fnI, fnIR, mDisp, mPairs, o2I, gtI, geI, leI, mStar, mStarT, mStarL, mAugI, mIndex, mRG, isRes, addD, mRP, mFrz, frzC, e]
theorem take_ok (b : Bool) : Draws (f_take b) := by
  intro r n h1 h2
  unfold f_take m_take
  generalize hS1 : mIte (mAnd _ _) _ _ = S1
  generalize hS2 : mIte _ _ _ = S2
  have e1 : ∃ r1, S1 ⟨[some ⟨.res, false⟩, some ⟨.int n, false⟩, none], r⟩ = some (.nx, ⟨[some ⟨.res, false⟩, some ⟨.int n, false⟩, none], r1⟩) := by
    rw [← hS1]
    by_cases h : r.rest = 0
    · cases hg : r.great with
      | nil =>
        refine ⟨r, ?_⟩
        simp [fnM, fnR, ent, mSeq, mSet, mV, mC, mOp1, mOp2, mChain, mAnd, mOr, mNot, mIf, mArgs, escAll, esc, soft, pk, hard, put, puts, mHards, mPar, mTup, mLst, mDct0, mCall, mRest, mRt, mRtN, mNx, mEx, mIte, mMut, mPut, mIt, bindT, bindTs, isAtom, isLst, isDK, plainAt, wipeE, backE, mFor, mLc, mDc, mWhile, mBk, mCt, mNo, mSl, mNoP, mPt, mJoin, mRng1, mRng2, mZip, mCallK, pickL, mMeth, mProp, mMake, mFld, fnI, fnIR, mDisp, mPairs, o2I, gtI, geI, leI, mStar, mStarT, mStarL, mAugI, mIndex, mRG, isRes, h, eq_int', mRB, hg]
      | cons g gs =>
        refine ⟨{ r with great := gs, cells := if b then gs else r.cells, rest := g }, ?_⟩
        simp [fnM, fnR, ent, mSeq, mSet, mV, mC, mOp1, mOp2, mChain, mAnd, mOr, mNot, mIf, mArgs, escAll, esc, soft, pk, hard, put, puts, mHards, mPar, mTup, mLst, mDct0, mCall, mRest, mRt, mRtN, mNx, mEx, mIte, mMut, mPut, mIt, bindT, bindTs, isAtom, isLst, isDK, plainAt, wipeE, backE, mFor, mLc, mDc, mWhile, mBk, mCt, mNo, mSl, mNoP, mPt, mJoin, mRng1, mRng2, mZip, mCallK, pickL, mMeth, mProp, mMake, mFld, fnI, fnIR, mDisp, mPairs, o2I, gtI, geI, leI, mStar, mStarT, mStarL, mAugI, mIndex, mRG, isRes, h, eq_int', mRB, hg, mRP, mRPop]
    · refine ⟨r, ?_⟩
      simp [fnM, fnR, ent, mSeq, mSet, mV, mC, mOp1, mOp2, mChain, mAnd, mOr, mNot, mIf, mArgs, escAll, esc, soft, pk, hard, put, puts, mHards, mPar, mTup, mLst, mDct0, mCall, mRest, mRt, mRtN, mNx, mEx, mIte, mMut, mPut, mIt, bindT, bindTs, isAtom, isLst, isDK, plainAt, wipeE, backE, mFor, mLc, mDc, mWhile, mBk, mCt, mNo, mSl, mNoP, mPt, mJoin, mRng1, mRng2, mZip, mCallK, pickL, mMeth, mProp, mMake, mFld, fnI, fnIR, mDisp, mPairs, o2I, gtI, geI, leI, mStar, mStarT, mStarL, mAugI, mIndex, mRG, isRes, h, eq_int']
  obtain ⟨r1, e1⟩ := e1
  have e2 : ∃ r2, S2 ⟨[some ⟨.res, false⟩, some ⟨.int n, false⟩, none], r1⟩ = some (.nx, ⟨[some ⟨.res, false⟩, some ⟨.int n, false⟩, none], r2⟩) := by
    rw [← hS2]
    by_cases h : r1.rest = 0
    · obtain ⟨m, r', e⟩ := blend_ok r1
      refine ⟨{ r' with rest := m }, ?_⟩
      simp [fnM, fnR, ent, mSeq, mSet, mV, mC, mOp1, mOp2, mChain, mAnd, mOr, mNot, mIf, mArgs, escAll, esc, soft, pk, hard, put, puts, mHards, mPar, mTup, mLst, mDct0, mCall, mRest, mRt, mRtN, mNx, mEx, mIte, mMut, mPut, mIt, bindT, bindTs, isAtom, isLst, isDK, plainAt, wipeE, backE, mFor, mLc, mDc, mWhile, mBk, mCt, mNo, mSl, mNoP, mPt, mJoin, mRng1, mRng2, mZip, mCallK, pickL, mMeth, mProp, mMake, mFld, fnI, fnIR, mDisp, mPairs, o2I, gtI, geI, leI, mStar, mStarT, mStarL, mAugI, mIndex, mRG, isRes, h, eq_int', mRP, e]
    · refine ⟨r1, ?_⟩
      simp [fnM, fnR, ent, mSeq, mSet, mV, mC, mOp1, mOp2, mChain, mAnd, mOr, mNot, mIf, mArgs, escAll, esc, soft, pk, hard, put, puts, mHards, mPar, mTup, mLst, mDct0, mCall, mRest, mRt, mRtN, mNx, mEx, mIte, mMut, mPut, mIt, bindT, bindTs, isAtom, isLst, isDK, plainAt, wipeE, backE, mFor, mLc, mDc, mWhile, mBk, mCt, mNo, mSl, mNoP, mPt, mJoin, mRng1, mRng2, mZip, mCallK, pickL, mMeth, mProp, mMake, mFld, fnI, fnIR, mDisp, mPairs, o2I, gtI, geI, leI, mStar, mStarT, mStarL, mAugI, mIndex, mRG, isRes, h, eq_int']
  obtain ⟨r2, e2⟩ := e2
  have hk : ((r2.rest % n).toNat : Int) = r2.rest % n := Int.toNat_of_nonneg (Int.emod_nonneg _ (by omega))
  refine ⟨(r2.rest % n).toNat, { r2 with rest := r2.rest / n }, by rw [hk]; exact Int.emod_lt_of_pos _ h1, ?_⟩
  rw [hk]
  simp [fnM, fnR, ent, mSeq, mSet, mV, mC, mOp1, mOp2, mChain, mAnd, mOr, mNot, mIf, mArgs, escAll, esc, soft, pk, hard, put, puts, mHards, mPar, mTup, mLst, mDct0, mCall, mRest, mRt, mRtN, mNx, mEx, mIte, mMut, mPut, mIt, bindT, bindTs, isAtom, isLst, isDK, plainAt, wipeE, backE, mFor, mLc, mDc, mWhile, mBk, mCt, mNo, mSl, mNoP, mPt, mJoin, mRng1, mRng2, mZip, mCallK, pickL, mMeth, mProp, mMake, mFld, fnI, fnIR, mDisp, mPairs, o2I, gtI, geI, leI, mStar, mStarT, mStarL, mAugI, mIndex, e1, e2, mRG, isRes, intD, mod_ok _ h1, mRP, div_ok _ h1 (show n.natAbs < 1073741824 by omega)]
end RW
namespace RW
open PySem L2
section
variable {R : Type}
/-- a loop over items, by what holds behind those that were seen; it may return -/
theorem each_ret {α : Type} {T : Tg} {mb : MS R} (enc : α → D) (xs : List α) (P : List α → S R → Prop) (Q : Vr → S R → Prop)
    (h : ∀ pre x post s, xs = pre ++ x :: post → P pre s → match bindT T (enc x) s.e with
      | some e' => Ev (mb { s with e := e' }) (fun fl s' => (fl = .nx ∧ P (pre ++ [x]) s') ∨ ∃ v, fl = .rt v ∧ Q v s')
      | none => False) (s : S R) (h0 : P [] s) : Ev (forL T mb (xs.map enc) s) (fun fl s' => (fl = .nx ∧ P xs s') ∨ ∃ v, fl = .rt v ∧ Q v s') := by
  let I : List D → S R → Prop := fun ds s => ∃ pre post, xs = pre ++ post ∧ ds = post.map enc ∧ P pre s
  refine for_ev I _ (fun d ds s hs => ?_) (fun s hs => ?_) _ _ ⟨[], xs, rfl, rfl, h0⟩
  · obtain ⟨pre, post, e1, e2, hp⟩ := hs
    cases post with
    | nil => cases e2
    | cons x post =>
      rw [List.map_cons] at e2
      obtain ⟨rfl, rfl⟩ := List.cons.inj e2
      have q := h pre x post s e1 hp
      split at q
      · rename_i e' eb
        try rw [eb]
        refine q.mono fun fl s' hq => ?_
        rcases hq with ⟨rfl, hq⟩ | ⟨v, rfl, hq⟩
        · exact ⟨pre ++ [x], post, by rw [e1]; simp, rfl, hq⟩
        · exact .inr ⟨v, rfl, hq⟩
      · exact q.elim
  · obtain ⟨pre, post, e1, e2, hp⟩ := hs
    cases post with
    | nil => rw [List.append_nil] at e1; rw [e1]; exact .inl ⟨rfl, hp⟩
    | cons x post => cases e2
theorem each_ev {α : Type} {T : Tg} {mb : MS R} (enc : α → D) (xs : List α) (P : List α → S R → Prop)
    (h : ∀ pre x post s, xs = pre ++ x :: post → P pre s → match bindT T (enc x) s.e with
      | some e' => Ev (mb { s with e := e' }) (fun fl s' => fl = .nx ∧ P (pre ++ [x]) s')
      | none => False) (s : S R) (h0 : P [] s) : Ev (forL T mb (xs.map enc) s) (fun fl s' => fl = .nx ∧ P xs s') := by
  refine (each_ret enc xs P (fun _ _ => False) (fun pre x post s e1 hp => ?_) s h0).mono fun fl s' hq => ?_
  · have q := h pre x post s e1 hp
    split at q
    · rename_i e' eb
      exact q.mono fun fl s' hq => .inl hq
    · exact q.elim
  · rcases hq with hq | ⟨_, _, hq⟩
    · exact hq
    · exact hq.elim
/-- a loop over a range -/
theorem rep_ev {T : Tg} {mb : MS R} (n : Nat) (lo : Int) (P : Nat → S R → Prop)
    (h : ∀ j s, j < n → P j s → match bindT T (.int (lo + j)) s.e with
      | some e' => Ev (mb { s with e := e' }) (fun fl s' => fl = .nx ∧ P (j + 1) s')
      | none => False) (s : S R) (h0 : P 0 s) : Ev (forL T mb (rangeOf n lo) s) (fun fl s' => fl = .nx ∧ P n s') := by
  unfold rangeOf
  refine (each_ev (fun (i : Nat) => D.int (lo + i)) (List.range n) (fun pre s => P pre.length s) (fun pre x post s e1 hp => ?_) s h0).mono fun fl s' hq => ?_
  · have hx : x = pre.length := by
      have : (List.range n)[pre.length]? = some x := by rw [e1]; simp
      rw [List.getElem?_range (by have := congrArg List.length e1; simp at this; omega)] at this
      exact (Option.some.inj this).symm
    have hlt : pre.length < n := by have := congrArg List.length e1; simp at this; omega
    subst hx
    have q := h pre.length s hlt hp
    split at q
    · exact q.mono fun fl s' hq => ⟨hq.1, by simpa using hq.2⟩
    · exact q.elim
  · rw [List.length_range] at hq; exact hq
theorem rep_ret {T : Tg} {mb : MS R} (n : Nat) (lo : Int) (P : Nat → S R → Prop) (Q : Vr → S R → Prop)
    (h : ∀ j s, j < n → P j s → match bindT T (.int (lo + j)) s.e with
      | some e' => Ev (mb { s with e := e' }) (fun fl s' => (fl = .nx ∧ P (j + 1) s') ∨ ∃ v, fl = .rt v ∧ Q v s')
      | none => False) (s : S R) (h0 : P 0 s) : Ev (forL T mb (rangeOf n lo) s) (fun fl s' => (fl = .nx ∧ P n s') ∨ ∃ v, fl = .rt v ∧ Q v s') := by
  unfold rangeOf
  refine (each_ret (fun (i : Nat) => D.int (lo + i)) (List.range n) (fun pre s => P pre.length s) Q (fun pre x post s e1 hp => ?_) s h0).mono fun fl s' hq => ?_
  · have hx : x = pre.length := by
      have : (List.range n)[pre.length]? = some x := by rw [e1]; simp
      rw [List.getElem?_range (by have := congrArg List.length e1; simp at this; omega)] at this
      exact (Option.some.inj this).symm
    have hlt : pre.length < n := by have := congrArg List.length e1; simp at this; omega
    subst hx
    have q := h pre.length s hlt hp
    split at q
    · exact q.mono fun fl s' hq => hq.imp (fun hq => ⟨hq.1, by simpa using hq.2⟩) id
    · exact q.elim
  · rw [List.length_range] at hq; exact hq
end
end RW
namespace Gr
/-! rows of nodes that are led on, rings: plain lists -/
section
variable {α : Type} (N : α → List α)
/-- each is led to the next -/
def Ch : List α → Prop
  | [] => True
  | [_] => True
  | a :: b :: l => b ∈ N a ∧ Ch (b :: l)
variable {N}
theorem Ch.tail {a : α} {l : List α} (h : Ch N (a :: l)) : Ch N l := by
  cases l with
  | nil => trivial
  | cons b l => exact h.2
/-- one more at the end -/
theorem ch_snoc : ∀ {l : List α} {a x : α}, Ch N (l ++ [a, x]) ↔ Ch N (l ++ [a]) ∧ x ∈ N a
  | [], a, x => ⟨fun h => ⟨trivial, h.1⟩, fun h => ⟨h.2, trivial⟩⟩
  | [b], a, x => ⟨fun h => ⟨⟨h.1, trivial⟩, h.2.1⟩, fun h => ⟨h.1.1, h.2, trivial⟩⟩
  | b :: c :: l, a, x => by
    have ih := ch_snoc (l := c :: l) (a := a) (x := x)
    show (c ∈ N b ∧ Ch N (c :: l ++ [a, x])) ↔ (c ∈ N b ∧ Ch N (c :: l ++ [a])) ∧ x ∈ N a
    rw [ih]
    exact ⟨fun h => ⟨⟨h.1, h.2.1⟩, h.2.2⟩, fun h => ⟨h.1.1, h.1.2, h.2⟩⟩
theorem ch_app_left : ∀ {l m : List α}, Ch N (l ++ m) → Ch N l
  | [], _, _ => trivial
  | [_], _, _ => trivial
  | a :: b :: l, m, h => ⟨h.1, ch_app_left (l := b :: l) h.2⟩
end
section
variable {α : Type} [DecidableEq α] (N : α → List α) (lt : α → α → Prop) [DecidableRel lt]
/-- a row from its least node, all different -/
structure Row (p : List α) : Prop where
  ch : Ch N p
  nd : p.Nodup
  least : ∃ a l, p = a :: l ∧ ∀ x ∈ l, lt a x
/-- a ring, told from its least node -/
structure Ring (p : List α) : Prop extends Row N lt p where
  back : ∃ a l z, p = a :: l ∧ p.getLast? = some z ∧ a ∈ N z
/-- the rows of k + 1 nodes from a node -/
def rows (n : α) : Nat → List (List α)
  | 0 => [[n]]
  | k + 1 => (rows n k).flatMap fun p => ((N (p.getLastD n)).filter fun x => decide (lt n x) && !decide (x ∈ p)).map fun x => p ++ [x]
variable {N lt}
theorem nodup_snoc {p : List α} {x : α} : (p ++ [x]).Nodup ↔ p.Nodup ∧ x ∉ p := by
  rw [List.nodup_append]
  constructor
  · rintro ⟨h1, _, h3⟩
    exact ⟨h1, fun z => h3 x z x (List.mem_singleton.mpr rfl) rfl⟩
  · rintro ⟨h1, h2⟩
    exact ⟨h1, List.pairwise_singleton _ _, fun a ha b hb e => h2 (by rw [List.mem_singleton.mp hb] at e; rw [← e]; exact ha)⟩
theorem row_snoc {l : List α} {a x : α} {n : α} {m : List α} (e : l ++ [a] = n :: m) : Row N lt (l ++ [a] ++ [x]) ↔ Row N lt (l ++ [a]) ∧ x ∈ N a ∧ lt n x ∧ x ∉ l ++ [a] := by
  have e2 : l ++ [a] ++ [x] = l ++ [a, x] := by simp
  constructor
  · rintro ⟨h1, h2, b, k, h3, h4⟩
    rw [e2] at h1
    obtain ⟨c1, c2⟩ := ch_snoc.mp h1
    obtain ⟨d1, d2⟩ := nodup_snoc.mp h2
    rw [e, List.cons_append] at h3
    injection h3 with h3 h5
    subst h3
    refine ⟨⟨c1, d1, n, m, e, fun y hy => h4 y (by rw [← h5]; exact List.mem_append_left _ hy)⟩, c2, h4 x (by rw [← h5]; exact List.mem_append_right _ (List.mem_singleton.mpr rfl)), d2⟩
  · rintro ⟨⟨h1, h2, b, k, h3, h4⟩, h5, h6, h7⟩
    refine ⟨by rw [e2]; exact ch_snoc.mpr ⟨h1, h5⟩, nodup_snoc.mpr ⟨h2, h7⟩, n, m ++ [x], by rw [e]; rfl, fun y hy => ?_⟩
    rcases List.mem_append.mp hy with hy | hy
    · rw [e] at h3
      injection h3 with h8 h9
      subst h8 h9
      exact h4 y hy
    · rw [List.mem_singleton.mp hy]; exact h6
theorem mem_rows {n : α} : ∀ (k : Nat) (p : List α), p ∈ rows N lt n k ↔ Row N lt p ∧ p.length = k + 1 ∧ p.head? = some n
  | 0, p => by
    rw [rows, List.mem_singleton]
    constructor
    · rintro rfl
      exact ⟨⟨trivial, List.pairwise_singleton _ _, n, [], rfl, fun x hx => by simp at hx⟩, rfl, rfl⟩
    · rintro ⟨_, h2, h3⟩
      cases p with
      | nil => cases h2
      | cons a l =>
        cases l with
        | nil => simp at h3; rw [h3]
        | cons b l => simp at h2
  | k + 1, p => by
    rw [rows, List.mem_flatMap]
    constructor
    · rintro ⟨q, hq, hp⟩
      obtain ⟨h1, h2, h3⟩ := (mem_rows k q).mp hq
      obtain ⟨x, hx, rfl⟩ := List.mem_map.mp hp
      obtain ⟨hx1, hx2⟩ := List.mem_filter.mp hx
      rw [Bool.and_eq_true, decide_eq_true_eq, Bool.not_eq_true', decide_eq_false_iff_not] at hx2
      have hne : q ≠ [] := fun z => by rw [z] at h2; cases h2
      obtain ⟨l, a, rfl⟩ : ∃ l a, q = l ++ [a] := ⟨_, _, (List.dropLast_concat_getLast hne).symm⟩
      obtain ⟨m, em⟩ : ∃ m, l ++ [a] = n :: m := by
        cases e : l ++ [a] with
        | nil => simp at e
        | cons b m => rw [e] at h3; simp at h3; rw [h3]; exact ⟨m, rfl⟩
      rw [List.getLastD_concat] at hx1
      refine ⟨(row_snoc em).mpr ⟨h1, hx1, hx2.1, hx2.2⟩, by simp at h2 ⊢; omega, by rw [em]; rfl⟩
    · rintro ⟨h1, h2, h3⟩
      have hne : p ≠ [] := fun z => by rw [z] at h2; cases h2
      obtain ⟨q, x, rfl⟩ : ∃ l a, p = l ++ [a] := ⟨_, _, (List.dropLast_concat_getLast hne).symm⟩
      have hq : q.length = k + 1 := by simp at h2; omega
      have hne : q ≠ [] := fun z => by rw [z] at hq; cases hq
      obtain ⟨l, a, rfl⟩ : ∃ l a, q = l ++ [a] := ⟨_, _, (List.dropLast_concat_getLast hne).symm⟩
      obtain ⟨m, em⟩ : ∃ m, l ++ [a] = n :: m := by
        cases e : l ++ [a] with
        | nil => simp at e
        | cons b m => rw [e] at h3; simp at h3; rw [h3]; exact ⟨m, rfl⟩
      obtain ⟨r1, r2, r3, r4⟩ := (row_snoc em).mp h1
      refine ⟨l ++ [a], (mem_rows k _).mpr ⟨r1, hq, by rw [em]; rfl⟩, List.mem_map.mpr ⟨x, List.mem_filter.mpr ⟨by rw [List.getLastD_concat]; exact r2, ?_⟩, rfl⟩⟩
      rw [Bool.and_eq_true, decide_eq_true_eq, Bool.not_eq_true', decide_eq_false_iff_not]
      exact ⟨r3, r4⟩
end
end Gr
namespace Gr
section
variable {α : Type} [DecidableEq α] {N : α → List α} {lt : α → α → Prop} [DecidableRel lt]
theorem Row.ne {p : List α} (h : Row N lt p) : p ≠ [] := by
  obtain ⟨a, l, rfl, _⟩ := h.least
  exact fun z => nomatch z
/-! ### rings of one length -/
def ringsAt (N : α → List α) (lt : α → α → Prop) [DecidableRel lt] (V : List α) (k : Nat) : List (List α) := V.flatMap fun n => (rows N lt n (k - 1)).filter fun p => decide (n ∈ N (p.getLastD n))
theorem mem_ringsAt {V : List α} {k : Nat} (hk : 1 ≤ k) {p : List α} : p ∈ ringsAt N lt V k ↔ Ring N lt p ∧ p.length = k ∧ ∃ n ∈ V, p.head? = some n := by
  unfold ringsAt
  rw [List.mem_flatMap]
  constructor
  · rintro ⟨n, hn, hp⟩
    obtain ⟨h1, h2⟩ := List.mem_filter.mp hp
    obtain ⟨r1, r2, r3⟩ := (mem_rows _ _).mp h1
    have hne := r1.ne
    obtain ⟨l, z, rfl⟩ : ∃ l a, p = l ++ [a] := ⟨_, _, (List.dropLast_concat_getLast hne).symm⟩
    rw [List.getLastD_concat, decide_eq_true_eq] at h2
    obtain ⟨a, m, e, _⟩ := r1.least
    have ea : a = n := by rw [e] at r3; exact Option.some.inj r3
    subst ea
    exact ⟨⟨r1, a, m, z, e, by simp, h2⟩, by omega, a, hn, r3⟩
  · rintro ⟨h1, h2, n, hn, h3⟩
    refine ⟨n, hn, List.mem_filter.mpr ⟨(mem_rows _ _).mpr ⟨h1.toRow, by omega, h3⟩, ?_⟩⟩
    obtain ⟨a, l, z, e1, e2, e3⟩ := h1.back
    have ea : a = n := by rw [e1] at h3; exact Option.some.inj h3
    subst ea
    rw [decide_eq_true_eq]
    have : p.getLastD a = z := by rw [List.getLastD_eq_getLast?, e2]; rfl
    rw [this]; exact e3
/-! ### all rings, by going on from rows that are left -/
structure Dfs (N : α → List α) (lt : α → α → Prop) (V : List α) (found line : List (List α)) : Prop where
  left : ∀ q ∈ line, Row N lt q ∧ ∀ x ∈ q, x ∈ V
  sound : ∀ p ∈ found, Ring N lt p ∧ ∀ x ∈ p, x ∈ V
  full : ∀ p, Ring N lt p → (∀ x ∈ p, x ∈ V) → (∃ q ∈ line, q <+: p) ∨ p ∈ found
theorem dfs_start {V : List α} : Dfs N lt V [] (V.map fun x => [x]) := by
  refine ⟨fun q hq => ?_, fun p hp => by simp at hp, fun p hp hV => .inl ?_⟩
  · obtain ⟨x, hx, rfl⟩ := List.mem_map.mp hq
    exact ⟨⟨trivial, List.pairwise_singleton _ _, x, [], rfl, fun y hy => by simp at hy⟩, fun y hy => by rw [List.mem_singleton.mp hy]; exact hx⟩
  · obtain ⟨a, l, rfl, _⟩ := hp.least
    exact ⟨[a], List.mem_map.mpr ⟨a, hV a List.mem_cons_self, rfl⟩, l, rfl⟩
theorem dfs_step {V : List α} {found found' line ext : List (List α)} {l : List α} {n z : α} (hN : ∀ x y, y ∈ N x → y ∈ V)
    (D : Dfs N lt V found (line ++ [l ++ [z]])) (hn : (l ++ [z]).head? = some n) (h1 : ∀ p, p ∈ found' ↔ p ∈ found ∨ (p = l ++ [z] ∧ n ∈ N z))
    (h2 : ∀ q, q ∈ ext ↔ ∃ x, x ∈ N z ∧ lt n x ∧ x ∉ l ++ [z] ∧ q = l ++ [z] ++ [x]) : Dfs N lt V found' (line ++ ext) := by
  obtain ⟨r0, v0⟩ := D.left (l ++ [z]) (List.mem_append_right _ (List.mem_singleton.mpr rfl))
  obtain ⟨m, em⟩ : ∃ m, l ++ [z] = n :: m := by
    cases e : l ++ [z] with
    | nil => simp at e
    | cons b m => rw [e] at hn; simp at hn; rw [hn]; exact ⟨m, rfl⟩
  refine ⟨fun q hq => ?_, fun p hp => ?_, fun p hp hV => ?_⟩
  · rcases List.mem_append.mp hq with hq | hq
    · exact D.left q (List.mem_append_left _ hq)
    · obtain ⟨x, x1, x2, x3, rfl⟩ := (h2 q).mp hq
      refine ⟨(row_snoc em).mpr ⟨r0, x1, x2, x3⟩, fun y hy => ?_⟩
      rcases List.mem_append.mp hy with hy | hy
      · exact v0 y hy
      · rw [List.mem_singleton.mp hy]; exact hN z x x1
  · rcases (h1 p).mp hp with hp | ⟨rfl, hz⟩
    · exact D.sound p hp
    · exact ⟨⟨r0, n, m, z, em, by simp, hz⟩, v0⟩
  · rcases D.full p hp hV with ⟨q, hq, hpre⟩ | h
    · rcases List.mem_append.mp hq with hq | hq
      · exact .inl ⟨q, List.mem_append_left _ hq, hpre⟩
      · rw [List.mem_singleton.mp hq] at hpre
        obtain ⟨t, et⟩ := hpre
        cases t with
        | nil =>
          rw [List.append_nil] at et
          subst et
          obtain ⟨a, l', z', e1, e2, e3⟩ := hp.back
          have ea : a = n := by rw [em] at e1; injection e1 with e1; exact e1.symm
          have ez : z' = z := by simp at e2; exact e2.symm
          subst ea ez
          exact .inr ((h1 _).mpr (.inr ⟨rfl, e3⟩))
        | cons x t =>
          have e2 : p = (l ++ [z] ++ [x]) ++ t := by rw [← et]; simp
          have r1 : Row N lt (l ++ [z] ++ [x]) := by
            obtain ⟨a, k, ea, hl⟩ := hp.least
            have ch := hp.ch
            have nd := hp.nd
            rw [e2] at ch nd
            refine ⟨ch_app_left ch, (List.nodup_append.mp nd).1, n, m ++ [x], by rw [em]; rfl, fun y hy => ?_⟩
            have : p = n :: (m ++ [x] ++ t) := by rw [e2, em]; simp
            rw [this] at ea
            injection ea with ea1 ea2
            subst ea1 ea2
            exact hl y (List.mem_append_left _ hy)
          obtain ⟨_, x1, x2, x3⟩ := (row_snoc em).mp r1
          exact .inl ⟨l ++ [z] ++ [x], List.mem_append_right _ ((h2 _).mpr ⟨x, x1, x2, x3, rfl⟩), t, e2.symm⟩
    · exact .inr ((h1 p).mpr (.inl h))
theorem dfs_end {V : List α} {found : List (List α)} (D : Dfs N lt V found []) (p : List α) : p ∈ found ↔ Ring N lt p ∧ ∀ x ∈ p, x ∈ V := by
  constructor
  · exact D.sound p
  · rintro ⟨h1, h2⟩
    rcases D.full p h1 h2 with ⟨q, hq, _⟩ | h
    · simp at hq
    · exact h
/-- how much is left to do -/
def todo (m : Nat) (line : List (List α)) : Nat := (line.map fun q => 2 ^ (m + 1 - q.length) - 1).sum
theorem todo_app (m : Nat) (a b : List (List α)) : todo m (a ++ b) = todo m a + todo m b := by simp [todo]
theorem todo_step {m : Nat} {line ext : List (List α)} {q : List α} (hq : q.length ≤ m) (he : ext.length ≤ 2) (hl : ∀ e ∈ ext, e.length = q.length + 1) : todo m (line ++ ext) < todo m (line ++ [q]) := by
  rw [todo_app, todo_app]
  have h1 : todo m [q] = 2 ^ (m + 1 - q.length) - 1 := by simp [todo]
  have h2 : todo m ext ≤ ext.length * (2 ^ (m - q.length) - 1) := by
    clear he h1
    induction ext with
    | nil => simp [todo]
    | cons e ext ih =>
      have a := ih fun x hx => hl x (List.mem_cons_of_mem _ hx)
      have b := hl e List.mem_cons_self
      have c : todo m (e :: ext) = (2 ^ (m + 1 - e.length) - 1) + todo m ext := by simp [todo]
      rw [c, b, List.length_cons, Nat.add_mul, Nat.one_mul, show m + 1 - (q.length + 1) = m - q.length by omega]
      omega
  have h3 : 2 ^ (m + 1 - q.length) = 2 * 2 ^ (m - q.length) := by
    rw [show m + 1 - q.length = (m - q.length) + 1 by omega, Nat.pow_succ]; omega
  have h4 : 1 ≤ 2 ^ (m - q.length) := Nat.one_le_two_pow
  have h5 : ext.length * (2 ^ (m - q.length) - 1) ≤ 2 * (2 ^ (m - q.length) - 1) := Nat.mul_le_mul_right _ he
  omega
end
end Gr
namespace Gr
section
variable {α : Type} [DecidableEq α] (N : α → List α)
/-- there are k steps on from a node -/
def wk : Nat → α → Bool
  | 0, _ => true
  | k + 1, n => (N n).any (wk k)
variable {N}
theorem wk_succ {k : Nat} {n : α} : wk N (k + 1) n = true ↔ ∃ m ∈ N n, wk N k m = true := by
  rw [wk, List.any_eq_true]
theorem wk_down : ∀ {k : Nat} {n : α}, wk N (k + 1) n = true → wk N k n = true
  | 0, _, _ => rfl
  | k + 1, n, h => by
    obtain ⟨m, hm, h⟩ := wk_succ.mp h
    exact wk_succ.mpr ⟨m, hm, wk_down h⟩
theorem wk_le {k j : Nat} {n : α} (h : j ≤ k) (w : wk N k n = true) : wk N j n = true := by
  induction k with
  | zero => rw [Nat.le_zero.mp h]; rfl
  | succ k ih =>
    rcases Nat.lt_or_ge j (k + 1) with z | z
    · exact ih (by omega) (wk_down w)
    · rw [show j = k + 1 by omega]; exact w
/-- nothing new from step k to the next: nothing new for good -/
theorem wk_stable {V : List α} (hN : ∀ x y, y ∈ N x → y ∈ V) {k : Nat} (h : ∀ n ∈ V, wk N k n = true → wk N (k + 1) n = true) : ∀ (j : Nat) (n : α), n ∈ V → wk N k n = true → wk N (k + j) n = true
  | 0, n, _, w => w
  | j + 1, n, hn, w => by
    obtain ⟨m, hm, w'⟩ := wk_succ.mp (h n hn w)
    exact wk_succ.mpr ⟨m, hm, wk_stable hN h j m (hN n m hm) w'⟩
def cnt (N : α → List α) (V : List α) (k : Nat) : Nat := (V.filter (wk N k)).length
theorem filter_lt {p q : α → Bool} : ∀ {V : List α}, (∀ x ∈ V, q x = true → p x = true) → (V.filter q).length ≤ (V.filter p).length ∧ ((∃ x ∈ V, p x = true ∧ q x = false) → (V.filter q).length < (V.filter p).length)
  | [], _ => ⟨Nat.le_refl _, fun ⟨x, hx, _⟩ => by simp at hx⟩
  | a :: V, h => by
    obtain ⟨h1, h2⟩ := filter_lt (V := V) fun x hx => h x (List.mem_cons_of_mem _ hx)
    have ha := h a List.mem_cons_self
    constructor
    · cases hq : q a with
      | true => simp [List.filter_cons, hq, ha hq]; exact h1
      | false =>
        cases hp : p a with
        | true => simp [List.filter_cons, hq, hp]; omega
        | false => simp [List.filter_cons, hq, hp]; exact h1
    · rintro ⟨x, hx, x1, x2⟩
      rcases List.mem_cons.mp hx with z | z
      · subst z
        simp [List.filter_cons, x1, x2]; omega
      · have := h2 ⟨x, z, x1, x2⟩
        cases hq : q a with
        | true => simp [List.filter_cons, hq, ha hq]; exact this
        | false =>
          cases hp : p a with
          | true => simp [List.filter_cons, hq, hp]; omega
          | false => simp [List.filter_cons, hq, hp]; exact this
theorem cnt_down {V : List α} (hN : ∀ x y, y ∈ N x → y ∈ V) : ∀ k : Nat, (∃ i, i ≤ k ∧ ∀ n ∈ V, wk N i n = true → wk N (i + 1) n = true) ∨ cnt N V (k + 1) + k + 1 ≤ V.length
  | 0 => by
    by_cases h : ∀ n ∈ V, wk N 0 n = true → wk N 1 n = true
    · exact .inl ⟨0, Nat.le_refl _, h⟩
    · right
      have : ∃ x ∈ V, wk N 0 x = true ∧ wk N 1 x = false := by
        refine Classical.byContradiction fun z => h fun n hn w => ?_
        cases e : wk N 1 n with
        | true => rfl
        | false => exact absurd ⟨n, hn, w, e⟩ z
      have a := (filter_lt (p := wk N 0) (q := wk N 1) (V := V) fun x _ => wk_down).2 this
      have b : (V.filter (wk N 0)).length ≤ V.length := List.length_filter_le _ _
      show (V.filter (wk N 1)).length + 0 + 1 ≤ _; omega
  | k + 1 => by
    rcases cnt_down hN k with ⟨i, h1, h2⟩ | h0
    · exact .inl ⟨i, by omega, h2⟩
    · by_cases h : ∀ n ∈ V, wk N (k + 1) n = true → wk N (k + 1 + 1) n = true
      · exact .inl ⟨k + 1, Nat.le_refl _, h⟩
      · right
        have : ∃ x ∈ V, wk N (k + 1) x = true ∧ wk N (k + 1 + 1) x = false := by
          refine Classical.byContradiction fun z => h fun n hn w => ?_
          cases e : wk N (k + 1 + 1) n with
          | true => rfl
          | false => exact absurd ⟨n, hn, w, e⟩ z
        have a := (filter_lt (p := wk N (k + 1)) (q := wk N (k + 1 + 1)) (V := V) fun x _ => wk_down).2 this
        unfold cnt at h0 ⊢; omega
/-- as many steps as there are nodes: any number of steps -/
theorem wk_all {V : List α} (hN : ∀ x y, y ∈ N x → y ∈ V) {n : α} (hn : n ∈ V) (w : wk N V.length n = true) (k : Nat) : wk N k n = true := by
  have pos : 0 < V.length := List.length_pos_of_mem hn
  rcases cnt_down hN (V.length - 1) with ⟨i, h1, h2⟩ | h0
  · have w' := wk_le (j := i) (by omega) w
    exact wk_le (Nat.le_add_left k i) (wk_stable hN h2 k n hn w')
  · rw [show V.length - 1 + 1 = V.length by omega] at h0
    have : 0 < cnt N V V.length := List.length_pos_of_mem (List.mem_filter.mpr ⟨hn, w⟩)
    omega
/-- the most steps from a node, if they are fewer than the nodes -/
def ht (N : α → List α) (m : Nat) (n : α) : Nat := ((List.range m).filter fun k => wk N (k + 1) n).length
/-- a node's steps end -/
def Ends (N : α → List α) (n : α) : Prop := ∃ v, wk N v n = true ∧ wk N (v + 1) n = false
end
end Gr
namespace Gr
section
variable {α : Type} [DecidableEq α]
theorem nodup_len : ∀ {w V : List α}, w.Nodup → (∀ x ∈ w, x ∈ V) → w.length ≤ V.length
  | [], _, _, _ => Nat.zero_le _
  | a :: w, V, hn, hV => by
    obtain ⟨h1, h2⟩ := List.nodup_cons.mp hn
    have ha := hV a List.mem_cons_self
    have h3 := nodup_len (w := w) (V := V.erase a) h2 fun x hx => by
      refine (List.mem_erase_of_ne ?_).mpr (hV x (List.mem_cons_of_mem _ hx))
      exact fun z => h1 (z ▸ hx)
    rw [List.length_erase_of_mem ha] at h3
    have := List.length_pos_of_mem ha
    rw [List.length_cons]; omega
variable (N : α → List α)
inductive Reach (a : α) : α → Prop
  | refl : Reach a a
  | step {b c : α} : Reach a b → c ∈ N b → Reach a c
variable {N}
theorem Reach.head {a b c : α} (h : b ∈ N a) (r : Reach N b c) : Reach N a c := by
  induction r with
  | refl => exact .step .refl h
  | step _ h2 ih => exact .step ih h2
theorem reach_ch : ∀ {l : List α} {a x : α}, Ch N (a :: l) → x ∈ a :: l → Reach N a x
  | [], a, x, _, hx => by rw [List.mem_singleton.mp hx]; exact .refl
  | b :: l, a, x, h, hx => by
    rcases List.mem_cons.mp hx with e | e
    · rw [e]; exact .refl
    · exact Reach.head h.1 (reach_ch h.2 e)
theorem reach_in {V : List α} (hN : ∀ x y, y ∈ N x → y ∈ V) {a b : α} (ha : a ∈ V) (r : Reach N a b) : b ∈ V := by
  induction r with
  | refl => exact ha
  | step _ h _ => exact hN _ _ h
/-- the order -/
structure Lin (lt : α → α → Prop) : Prop where
  irr : ∀ x, ¬ lt x x
  tr : ∀ {x y z}, lt x y → lt y z → lt x z
  tri : ∀ x y, lt x y ∨ x = y ∨ lt y x
variable {lt : α → α → Prop}
theorem snoc_of {l : List α} (h : l ≠ []) : ∃ w z, l = w ++ [z] := ⟨_, _, (List.dropLast_concat_getLast h).symm⟩
end
end Gr
namespace RW
open PySem L2
/-! ### webs: from nodes to the lists of their places -/
abbrev Web := List (Str × List (Option Str))
def dPl (ps : List (Option Str)) : D := .lst (lO ps)
abbrev dW (W : Web) : D := dT dPl W
def kW (W : Web) : List Str := W.map (·.1)
def plW (W : Web) (n : Str) : List (Option Str) := (W.lookup n).getD []
def inW (W : Web) (p : Option Str) : Bool := match p with
  | some x => decide (x ∈ kW W)
  | none => false
def unO (p : Option Str) : Str := p.getD Str.empty
def nx (W : Web) (n : Str) : List Str := ((plW W n).filter (inW W)).map unO
theorem nx_mem {W : Web} {n x : Str} : x ∈ nx W n ↔ some x ∈ plW W n ∧ x ∈ kW W := by
  unfold nx
  rw [List.mem_map]
  constructor
  · rintro ⟨p, hp, rfl⟩
    obtain ⟨h1, h2⟩ := List.mem_filter.mp hp
    cases p with
    | none => cases h2
    | some y => exact ⟨h1, of_decide_eq_true h2⟩
  · rintro ⟨h1, h2⟩
    exact ⟨some x, List.mem_filter.mpr ⟨h1, decide_eq_true h2⟩, rfl⟩
theorem nx_in {W : Web} : ∀ x y, y ∈ nx W x → y ∈ kW W := fun x y h => (nx_mem.mp h).2
theorem nx_len (W : Web) (n : Str) : (nx W n).length ≤ (plW W n).length := by
  unfold nx; rw [List.length_map]; exact List.length_filter_le _ _
theorem look_W {W : Web} {n : Str} (h : n ∈ kW W) : W.lookup n = some (plW W n) := by
  obtain ⟨y, hy⟩ := Option.isSome_iff_exists.mp (look_some.mp h)
  unfold plW; rw [hy]; rfl
def ltS (x y : Str) : Prop := x.cps.toList < y.cps.toList
instance : DecidableRel ltS := fun x y => inferInstanceAs (Decidable (x.cps.toList < y.cps.toList))
/-- of at most m nodes, with at most two places each, never the node itself -/
structure WebOk (W : Web) (m : Nat) : Prop where
  nd : (kW W).Nodup
  len : W.length ≤ m
  two : ∀ n, (plW W n).length ≤ 2
  dif : ∀ n, (plW W n).Nodup
  self : ∀ n, some n ∉ plW W n
section
variable {R : Type} {T : Fm R}
theorem nxD (W : Web) (n : Str) : ((plW W n).filter (inW W)).map dO = dS (nx W n) := by
  unfold nx dS
  rw [List.map_map]
  refine List.map_congr_left fun p hp => ?_
  have h2 := (List.mem_filter.mp hp).2
  cases p with
  | none => cases h2
  | some y => rfl
theorem inD_W (W : Web) (p : Option Str) : inB (dO p) (dW W) = some (inW W p) := by
  rw [in_dTO]
  cases p <;> rfl
theorem next_nodes_ok {W : Web} {n : Str} (hn : n ∈ kW W) (h2 : (plW W n).length ≤ 1000) (r : R) : f_next_nodes T [dW W, .str n] r = some (.tmp (.lst (dS (nx W n))), r) := by
  unfold f_next_nodes m_next_nodes
  generalize hL : mLc _ _ _ _ _ = L
  have eL : L ⟨[some ⟨dW W, false⟩, some ⟨.str n, false⟩, none], r⟩ = some (.tmp (.lst (((plW W n).filter (inW W)).map dO)), ⟨[some ⟨dW W, false⟩, some ⟨.str n, false⟩, none], r⟩) := by
    rw [← hL]
    refine mLc_enc dO (inW W) dO (plW W n) ?_ (by rfl) (fun p hp => ?_) (by unfold sizeLine; omega)
    · simp [fnM, fnR, ent, mSeq, mSet, mV, mC, mOp1, mOp2, mChain, mAnd, mOr, mNot, mIf, mArgs, escAll, esc, soft, pk, hard, put, puts, mHards, mPar, mTup, mLst, mDct0, mCall, mRest, mRt, mRtN, mNx, mEx, mIte, mMut, mPut, mIt, bindT, bindTs, isAtom, isLst, isDK, plainAt, wipeE, backE, mFor, mLc, mDc, mWhile, mBk, mCt, mNo, mSl, mNoP, mPt, mJoin, mRng1, mRng2, mZip, mCallK, pickL, mMeth, mProp, mMake, mFld, fnI, fnIR, mDisp, mPairs, o2I, gtI, geI, leI, mStar, mStarT, mStarL, mAugI, mIndex, idx_dT dPl (look_W hn), dPl, itemsOf, lO]
    · simp [fnM, fnR, ent, mSeq, mSet, mV, mC, mOp1, mOp2, mChain, mAnd, mOr, mNot, mIf, mArgs, escAll, esc, soft, pk, hard, put, puts, mHards, mPar, mTup, mLst, mDct0, mCall, mRest, mRt, mRtN, mNx, mEx, mIte, mMut, mPut, mIt, bindT, bindTs, isAtom, isLst, isDK, plainAt, wipeE, backE, mFor, mLc, mDc, mWhile, mBk, mCt, mNo, mSl, mNoP, mPt, mJoin, mRng1, mRng2, mZip, mCallK, pickL, mMeth, mProp, mMake, mFld, fnI, fnIR, mDisp, mPairs, o2I, gtI, geI, leI, mStar, mStarT, mStarL, mAugI, mIndex, inD, inD_W]
  simp [fnM, fnR, ent, mSeq, mSet, mV, mC, mOp1, mOp2, mChain, mAnd, mOr, mNot, mIf, mArgs, escAll, esc, soft, pk, hard, put, puts, mHards, mPar, mTup, mLst, mDct0, mCall, mRest, mRt, mRtN, mNx, mEx, mIte, mMut, mPut, mIt, bindT, bindTs, isAtom, isLst, isDK, plainAt, wipeE, backE, mFor, mLc, mDc, mWhile, mBk, mCt, mNo, mSl, mNoP, mPt, mJoin, mRng1, mRng2, mZip, mCallK, pickL, mMeth, mProp, mMake, mFld, fnI, fnIR, mDisp, mPairs, o2I, gtI, geI, leI, mStar, mStarT, mStarL, mAugI, mIndex, eL, nxD]
end
end RW
namespace RW
open PySem L2 Gr
/-! ### the mixture of a round -/
def spW (p : Tab × Tab) (ready part : List Str) (x : Str) : List (Option Str) :=
  if x ∈ ready then [look p.2 x] else if x ∈ part ∧ look p.2 x ≠ look p.1 x then [look p.1 x, look p.2 x] else [look p.1 x]
def webOf (dots : List Str) (p : Tab × Tab) (ready part : List Str) : Web := dots.map fun x => (x, spW p ready part x)
theorem kW_web (dots : List Str) (p : Tab × Tab) (ready part : List Str) : kW (webOf dots p ready part) = dots := by
  unfold kW webOf
  rw [List.map_map]
  exact List.map_id' _
theorem look_map {α : Type} {f : Str → α} : ∀ {dots : List Str} {x : Str}, x ∈ dots → (dots.map fun x => (x, f x)).lookup x = some (f x)
  | y :: ys, x, h => by
    rw [List.map_cons, List.lookup_cons]
    by_cases e : x = y
    · subst e; simp
    · rw [beq_eq_false_iff_ne.mpr e]
      exact look_map ((List.mem_cons.mp h).resolve_left e)
theorem look_none {α : Type} {f : Str → α} : ∀ {dots : List Str} {x : Str}, x ∉ dots → (dots.map fun x => (x, f x)).lookup x = none
  | [], _, _ => rfl
  | y :: ys, x, h => by
    rw [List.map_cons, List.lookup_cons]
    rw [beq_eq_false_iff_ne.mpr fun e => h (by rw [e]; exact List.mem_cons_self)]
    exact look_none fun z => h (List.mem_cons_of_mem _ z)
theorem plW_web {dots : List Str} {p : Tab × Tab} {ready part : List Str} {x : Str} (h : x ∈ dots) : plW (webOf dots p ready part) x = spW p ready part x := by
  unfold plW webOf
  rw [look_map h]; rfl
theorem plW_none {dots : List Str} {p : Tab × Tab} {ready part : List Str} {x : Str} (h : x ∉ dots) : plW (webOf dots p ready part) x = [] := by
  unfold plW webOf
  rw [look_none h]; rfl
theorem spW_two (p : Tab × Tab) (ready part : List Str) (x : Str) : (spW p ready part x).length ≤ 2 := by
  unfold spW; split
  · simp
  · split <;> simp
theorem webOk {M : Mod} (hM : ModOk M) {e : Str} {p : Tab × Tab} (hp : (e, p) ∈ M.rows) (ready part : List Str) : WebOk (webOf M.dots p ready part) M.dots.length := by
  obtain ⟨ht1, ht2⟩ := hM.tab _ hp
  have hne : ∀ x ∈ M.dots, ∀ t : Tab, TabOk M.dots e t → look t x ≠ some x := fun x hx t ht h => by
    have he := hM.rdot _ hp
    rcases (tab_look ht hx).2 with z | z | ⟨y, z, _, hn⟩
    · rw [h] at z; cases z
    · rw [h] at z; cases z; exact he hx
    · rw [h] at z; cases z; exact hn rfl
  refine ⟨by rw [kW_web]; exact hM.dn, by simp [webOf], fun n => ?_, fun n => ?_, fun n => ?_⟩
  · by_cases hn : n ∈ M.dots
    · rw [plW_web hn]; exact spW_two _ _ _ _
    · rw [plW_none hn]; simp
  · by_cases hn : n ∈ M.dots
    · rw [plW_web hn]; unfold spW; split
      · simp
      · split
        · rename_i h; simp; exact fun z => h.2 z.symm
        · simp
    · rw [plW_none hn]; simp
  · by_cases hn : n ∈ M.dots
    · rw [plW_web hn]; unfold spW
      have h1 := hne n hn p.1 ht1
      have h2 := hne n hn p.2 ht2
      split
      · simp; exact fun z => h2 z.symm
      · split
        · simp; exact ⟨fun z => h1 z.symm, fun z => h2 z.symm⟩
        · simp; exact fun z => h1 z.symm
    · rw [plW_none hn]; simp
theorem web_snoc (pre : List Str) (x : Str) (p : Tab × Tab) (ready part : List Str) : webOf (pre ++ [x]) p ready part = webOf pre p ready part ++ [(x, spW p ready part x)] := by simp [webOf]
section
variable {R : Type} {T : Fm R}
theorem put_W {t : Web} {k : Str} {ps : List (Option Str)} (h : t.length < 1000) (hk : k ∉ kW t) : putD (dW t) (.str k) (.lst (lO ps)) = some (dW (t ++ [(k, ps)])) := by
  have := putD_dT dPl t k ps (by unfold sizeLine; omega)
  rw [putT_new hk] at this
  exact this
theorem mixture_ok {M : Mod} (hM : ModOk M) {e : Str} {p : Tab × Tab} (hp : (e, p) ∈ M.rows) (ready part : List Str) (r : R) : f_mixture T [netD M, .tup (dS ready), .tup (dS part), .str e] r = some (.tmp (dW (webOf M.dots p ready part)), r) := by
  suffices h : Ev (f_mixture T [netD M, .tup (dS ready), .tup (dS part), .str e] r) (fun v r' => v = .tmp (dW (webOf M.dots p ready part)) ∧ r' = r) by
    obtain ⟨v, r', e, rfl, rfl⟩ := h
    exact e
  have d2 := hM.d2
  have hi : idxD (dT dP (ordR M)) (.str e) = some (.sh (.tup [dT dO (ordT M.dots p.1), dT dO (ordT M.dots p.2)])) := idx_dT dP (ordR_look hM hp)
  unfold f_mixture m_mixture
  generalize hF : mFor _ _ _ = F1
  generalize hU : mUnp _ _ = U
  have eU : U ⟨[some ⟨netD M, false⟩, some ⟨.tup (dS ready), false⟩, some ⟨.tup (dS part), false⟩, some ⟨.str e, false⟩, none, none, none, none], r⟩ = some (.nx, ⟨[some ⟨netD M, false⟩, some ⟨.tup (dS ready), false⟩, some ⟨.tup (dS part), false⟩, some ⟨.str e, false⟩, some ⟨dT dO (ordT M.dots p.1), false⟩, some ⟨dT dO (ordT M.dots p.2), false⟩, none, none], r⟩) := by
    rw [← hU]
    refine mUnp_ok (v := .sh (.tup [dT dO (ordT M.dots p.1), dT dO (ordT M.dots p.2)])) (s1 := ⟨[some ⟨netD M, false⟩, some ⟨.tup (dS ready), false⟩, some ⟨.tup (dS part), false⟩, some ⟨.str e, false⟩, none, none, none, none], r⟩) ?_ rfl rfl
    simp [fnM, fnR, ent, mSeq, mSet, mV, mC, mOp1, mOp2, mChain, mAnd, mOr, mNot, mIf, mArgs, escAll, esc, soft, pk, hard, put, puts, mHards, mPar, mTup, mLst, mDct0, mCall, mRest, mRt, mRtN, mNx, mEx, mIte, mMut, mPut, mIt, bindT, bindTs, isAtom, isLst, isDK, plainAt, wipeE, backE, mFor, mLc, mDc, mWhile, mBk, mCt, mNo, mSl, mNoP, mPt, mJoin, mRng1, mRng2, mZip, mCallK, pickL, mMeth, mProp, mMake, mFld, fnI, fnIR, mDisp, mPairs, o2I, gtI, geI, leI, mStar, mStarT, mStarL, mAugI, mIndex, fld1, hi]
  simp [fnM, fnR, ent, mSeq, mSet, mV, mC, mOp1, mOp2, mChain, mAnd, mOr, mNot, mIf, mArgs, escAll, esc, soft, pk, hard, put, puts, mHards, mPar, mTup, mLst, mDct0, mCall, mRest, mRt, mRtN, mNx, mEx, mIte, mMut, mPut, mIt, bindT, bindTs, isAtom, isLst, isDK, plainAt, wipeE, backE, mFor, mLc, mDc, mWhile, mBk, mCt, mNo, mSl, mNoP, mPt, mJoin, mRng1, mRng2, mZip, mCallK, pickL, mMeth, mProp, mMake, mFld, fnI, fnIR, mDisp, mPairs, o2I, gtI, geI, leI, mStar, mStarT, mStarL, mAugI, mIndex, List.replicate, eU]
  subst hF
  let P : List Str → S R → Prop := fun pre s => ∃ a7 : Option Cell, s = ⟨[some ⟨netD M, false⟩, some ⟨.tup (dS ready), false⟩, some ⟨.tup (dS part), false⟩, some ⟨.str e, false⟩, some ⟨dT dO (ordT M.dots p.1), false⟩, some ⟨dT dO (ordT M.dots p.2), false⟩, some ⟨dW (webOf pre p ready part), true⟩, a7], r⟩
  refine (mFor_ev (ds := dS M.dots) (s1 := ⟨[some ⟨netD M, false⟩, some ⟨.tup (dS ready), false⟩, some ⟨.tup (dS part), false⟩, some ⟨.str e, false⟩, some ⟨dT dO (ordT M.dots p.1), false⟩, some ⟨dT dO (ordT M.dots p.2), false⟩, some ⟨.dct false [], true⟩, none], r⟩) (by simp [fnM, fnR, ent, mSeq, mSet, mV, mC, mOp1, mOp2, mChain, mAnd, mOr, mNot, mIf, mArgs, escAll, esc, soft, pk, hard, put, puts, mHards, mPar, mTup, mLst, mDct0, mCall, mRest, mRt, mRtN, mNx, mEx, mIte, mMut, mPut, mIt, bindT, bindTs, isAtom, isLst, isDK, plainAt, wipeE, backE, mFor, mLc, mDc, mWhile, mBk, mCt, mNo, mSl, mNoP, mPt, mJoin, mRng1, mRng2, mZip, mCallK, pickL, mMeth, mProp, mMake, mFld, fnI, fnIR, mDisp, mPairs, o2I, gtI, geI, leI, mStar, mStarT, mStarL, mAugI, mIndex, fld3, itemsOf]) (each_ev D.str M.dots P (fun pre x post s e1 hs => ?_) _ ⟨none, rfl⟩)).mono ?_
  · obtain ⟨a7, rfl⟩ := hs
    have hx : x ∈ M.dots := by rw [e1]; simp
    have hxn : x ∉ pre := by
      have := hM.dn
      rw [e1] at this
      have := (List.nodup_append.mp this).2.2
      exact fun z => this x z x List.mem_cons_self rfl
    have hl : (webOf pre p ready part).length < 1000 := by
      have := congrArg List.length e1
      simp at this
      simp [webOf]; omega
    have hk : x ∉ kW (webOf pre p ready part) := by rw [kW_web]; exact hxn
    have hP : P (pre ++ [x]) ⟨[some ⟨netD M, false⟩, some ⟨.tup (dS ready), false⟩, some ⟨.tup (dS part), false⟩, some ⟨.str e, false⟩, some ⟨dT dO (ordT M.dots p.1), false⟩, some ⟨dT dO (ordT M.dots p.2), false⟩, some ⟨dW (webOf pre p ready part ++ [(x, spW p ready part x)]), true⟩, some ⟨.str x, false⟩], r⟩ := ⟨some ⟨.str x, false⟩, by rw [web_snoc]⟩
    have o1 := idx_dT dO (ordT_look (t := p.1) hx)
    have o2 := idx_dT dO (ordT_look (t := p.2) hx)
    have pw := fun ps => put_W (ps := ps) hl hk
    generalize P (pre ++ [x]) = PP at hP
    generalize webOf pre p ready part = WW at hP pw
    by_cases h1 : x ∈ ready
    · have es : spW p ready part x = [look p.2 x] := by unfold spW; rw [if_pos h1]
      have pw := pw [look p.2 x]
      rw [es] at hP
      simp only [lO, List.map_cons, List.map_nil] at pw
      simp [fnM, fnR, ent, mSeq, mSet, mV, mC, mOp1, mOp2, mChain, mAnd, mOr, mNot, mIf, mArgs, escAll, esc, soft, pk, hard, put, puts, mHards, mPar, mTup, mLst, mDct0, mCall, mRest, mRt, mRtN, mNx, mEx, mIte, mMut, mPut, mIt, bindT, bindTs, isAtom, isLst, isDK, plainAt, wipeE, backE, mFor, mLc, mDc, mWhile, mBk, mCt, mNo, mSl, mNoP, mPt, mJoin, mRng1, mRng2, mZip, mCallK, pickL, mMeth, mProp, mMake, mFld, fnI, fnIR, mDisp, mPairs, o2I, gtI, geI, leI, mStar, mStarT, mStarL, mAugI, mIndex, inD, in_tup, h1, o2, pw, hP]
    · by_cases h2 : x ∈ part
      · by_cases h3 : look p.2 x = look p.1 x
        · have es : spW p ready part x = [look p.1 x] := by unfold spW; rw [if_neg h1, if_neg (fun z => z.2 h3)]
          have pw := pw [look p.1 x]
          rw [es] at hP
          simp only [lO, List.map_cons, List.map_nil] at pw
          simp [fnM, fnR, ent, mSeq, mSet, mV, mC, mOp1, mOp2, mChain, mAnd, mOr, mNot, mIf, mArgs, escAll, esc, soft, pk, hard, put, puts, mHards, mPar, mTup, mLst, mDct0, mCall, mRest, mRt, mRtN, mNx, mEx, mIte, mMut, mPut, mIt, bindT, bindTs, isAtom, isLst, isDK, plainAt, wipeE, backE, mFor, mLc, mDc, mWhile, mBk, mCt, mNo, mSl, mNoP, mPt, mJoin, mRng1, mRng2, mZip, mCallK, pickL, mMeth, mProp, mMake, mFld, fnI, fnIR, mDisp, mPairs, o2I, gtI, geI, leI, mStar, mStarT, mStarL, mAugI, mIndex, inD, in_tup, h1, h2, h3, o1, o2, ne_dO, pw, hP]
        · have es : spW p ready part x = [look p.1 x, look p.2 x] := by unfold spW; rw [if_neg h1, if_pos ⟨h2, h3⟩]
          have pw := pw [look p.1 x, look p.2 x]
          rw [es] at hP
          simp only [lO, List.map_cons, List.map_nil] at pw
          simp [fnM, fnR, ent, mSeq, mSet, mV, mC, mOp1, mOp2, mChain, mAnd, mOr, mNot, mIf, mArgs, escAll, esc, soft, pk, hard, put, puts, mHards, mPar, mTup, mLst, mDct0, mCall, mRest, mRt, mRtN, mNx, mEx, mIte, mMut, mPut, mIt, bindT, bindTs, isAtom, isLst, isDK, plainAt, wipeE, backE, mFor, mLc, mDc, mWhile, mBk, mCt, mNo, mSl, mNoP, mPt, mJoin, mRng1, mRng2, mZip, mCallK, pickL, mMeth, mProp, mMake, mFld, fnI, fnIR, mDisp, mPairs, o2I, gtI, geI, leI, mStar, mStarT, mStarL, mAugI, mIndex, inD, in_tup, h1, h2, h3, o1, o2, ne_dO, pw, hP]
      · have es : spW p ready part x = [look p.1 x] := by unfold spW; rw [if_neg h1, if_neg (fun z => h2 z.1)]
        have pw := pw [look p.1 x]
        rw [es] at hP
        simp only [lO, List.map_cons, List.map_nil] at pw
        simp [fnM, fnR, ent, mSeq, mSet, mV, mC, mOp1, mOp2, mChain, mAnd, mOr, mNot, mIf, mArgs, escAll, esc, soft, pk, hard, put, puts, mHards, mPar, mTup, mLst, mDct0, mCall, mRest, mRt, mRtN, mNx, mEx, mIte, mMut, mPut, mIt, bindT, bindTs, isAtom, isLst, isDK, plainAt, wipeE, backE, mFor, mLc, mDc, mWhile, mBk, mCt, mNo, mSl, mNoP, mPt, mJoin, mRng1, mRng2, mZip, mCallK, pickL, mMeth, mProp, mMake, mFld, fnI, fnIR, mDisp, mPairs, o2I, gtI, geI, leI, mStar, mStarT, mStarL, mAugI, mIndex, inD, in_tup, h1, h2, o1, pw, hP]
  · rintro fl s' ⟨rfl, a7, rfl⟩
    simp [fnM, fnR, ent, mSeq, mSet, mV, mC, mOp1, mOp2, mChain, mAnd, mOr, mNot, mIf, mArgs, escAll, esc, soft, pk, hard, put, puts, mHards, mPar, mTup, mLst, mDct0, mCall, mRest, mRt, mRtN, mNx, mEx, mIte, mMut, mPut, mIt, bindT, bindTs, isAtom, isLst, isDK, plainAt, wipeE, backE, mFor, mLc, mDc, mWhile, mBk, mCt, mNo, mSl, mNoP, mPt, mJoin, mRng1, mRng2, mZip, mCallK, pickL, mMeth, mProp, mMake, mFld, fnI, fnIR, mDisp, mPairs, o2I, gtI, geI, leI, mStar, mStarT, mStarL, mAugI, mIndex]
theorem law_web_ok {M : Mod} (hM : ModOk M) {e : Str} {p : Tab × Tab} (hp : (e, p) ∈ M.rows) (ready part : List Str) (hd : ∀ x ∈ part, x ∉ ready) (r : R) : f__law_web T [dMod M, .str e, .tup (dS ready), .tup (dS part)] r = some (.tmp (dW (webOf M.dots p ready part)), r) := by
  suffices h : Ev (f__law_web T [dMod M, .str e, .tup (dS ready), .tup (dS part)] r) (fun v r' => v = .tmp (dW (webOf M.dots p ready part)) ∧ r' = r) by
    obtain ⟨v, r', e, rfl, rfl⟩ := h
    exact e
  have d2 := hM.d2
  obtain ⟨ht1, ht2⟩ := hM.tab _ hp
  have hi : idxD (dT dP M.rows) (.str e) = some (.sh (.tup [dT dO p.1, dT dO p.2])) := idx_dT dP (lookup_of_mem hM.rn hp)
  unfold f__law_web m__law_web
  generalize hF : mFor _ _ _ = F1
  generalize hU : mUnp _ _ = U
  have eU : U ⟨[some ⟨dMod M, false⟩, some ⟨.str e, false⟩, some ⟨.tup (dS ready), false⟩, some ⟨.tup (dS part), false⟩, none, none, none, none, none], r⟩ = some (.nx, ⟨[some ⟨dMod M, false⟩, some ⟨.str e, false⟩, some ⟨.tup (dS ready), false⟩, some ⟨.tup (dS part), false⟩, some ⟨dT dO p.1, false⟩, some ⟨dT dO p.2, false⟩, none, none, none], r⟩) := by
    rw [← hU]
    refine mUnp_ok (v := .sh (.tup [dT dO p.1, dT dO p.2])) (s1 := ⟨[some ⟨dMod M, false⟩, some ⟨.str e, false⟩, some ⟨.tup (dS ready), false⟩, some ⟨.tup (dS part), false⟩, none, none, none, none, none], r⟩) ?_ rfl rfl
    simp [fnM, fnR, ent, mSeq, mSet, mV, mC, mOp1, mOp2, mChain, mAnd, mOr, mNot, mIf, mArgs, escAll, esc, soft, pk, hard, put, puts, mHards, mPar, mTup, mLst, mDct0, mCall, mRest, mRt, mRtN, mNx, mEx, mIte, mMut, mPut, mIt, bindT, bindTs, isAtom, isLst, isDK, plainAt, wipeE, backE, mFor, mLc, mDc, mWhile, mBk, mCt, mNo, mSl, mNoP, mPt, mJoin, mRng1, mRng2, mZip, mCallK, pickL, mMeth, mProp, mMake, mFld, fnI, fnIR, mDisp, mPairs, o2I, gtI, geI, leI, mStar, mStarT, mStarL, mAugI, mIndex, idx_m1, hi]
  simp [fnM, fnR, ent, mSeq, mSet, mV, mC, mOp1, mOp2, mChain, mAnd, mOr, mNot, mIf, mArgs, escAll, esc, soft, pk, hard, put, puts, mHards, mPar, mTup, mLst, mDct0, mCall, mRest, mRt, mRtN, mNx, mEx, mIte, mMut, mPut, mIt, bindT, bindTs, isAtom, isLst, isDK, plainAt, wipeE, backE, mFor, mLc, mDc, mWhile, mBk, mCt, mNo, mSl, mNoP, mPt, mJoin, mRng1, mRng2, mZip, mCallK, pickL, mMeth, mProp, mMake, mFld, fnI, fnIR, mDisp, mPairs, o2I, gtI, geI, leI, mStar, mStarT, mStarL, mAugI, mIndex, List.replicate, eU]
  subst hF
  let P : List Str → S R → Prop := fun pre s => ∃ a7 a8 : Option Cell, s = ⟨[some ⟨dMod M, false⟩, some ⟨.str e, false⟩, some ⟨.tup (dS ready), false⟩, some ⟨.tup (dS part), false⟩, some ⟨dT dO p.1, false⟩, some ⟨dT dO p.2, false⟩, some ⟨dW (webOf pre p ready part), true⟩, a7, a8], r⟩
  refine (mFor_ev (ds := dS M.dots) (s1 := ⟨[some ⟨dMod M, false⟩, some ⟨.str e, false⟩, some ⟨.tup (dS ready), false⟩, some ⟨.tup (dS part), false⟩, some ⟨dT dO p.1, false⟩, some ⟨dT dO p.2, false⟩, some ⟨.dct false [], true⟩, none, none], r⟩) (by simp [fnM, fnR, ent, mSeq, mSet, mV, mC, mOp1, mOp2, mChain, mAnd, mOr, mNot, mIf, mArgs, escAll, esc, soft, pk, hard, put, puts, mHards, mPar, mTup, mLst, mDct0, mCall, mRest, mRt, mRtN, mNx, mEx, mIte, mMut, mPut, mIt, bindT, bindTs, isAtom, isLst, isDK, plainAt, wipeE, backE, mFor, mLc, mDc, mWhile, mBk, mCt, mNo, mSl, mNoP, mPt, mJoin, mRng1, mRng2, mZip, mCallK, pickL, mMeth, mProp, mMake, mFld, fnI, fnIR, mDisp, mPairs, o2I, gtI, geI, leI, mStar, mStarT, mStarL, mAugI, mIndex, idx_m2, itemsOf]) (each_ev D.str M.dots P (fun pre x post s e1 hs => ?_) _ ⟨none, none, rfl⟩)).mono ?_
  · obtain ⟨a7, a8, rfl⟩ := hs
    have hx : x ∈ M.dots := by rw [e1]; simp
    have hxn : x ∉ pre := by
      have := hM.dn
      rw [e1] at this
      have := (List.nodup_append.mp this).2.2
      exact fun z => this x z x List.mem_cons_self rfl
    have hl : (webOf pre p ready part).length < 1000 := by
      have := congrArg List.length e1
      simp at this
      simp [webOf]; omega
    have hk : x ∉ kW (webOf pre p ready part) := by rw [kW_web]; exact hxn
    have hP : ∀ c, P (pre ++ [x]) ⟨[some ⟨dMod M, false⟩, some ⟨.str e, false⟩, some ⟨.tup (dS ready), false⟩, some ⟨.tup (dS part), false⟩, some ⟨dT dO p.1, false⟩, some ⟨dT dO p.2, false⟩, some ⟨dW (webOf pre p ready part ++ [(x, spW p ready part x)]), true⟩, some ⟨.str x, false⟩, c], r⟩ := fun c => ⟨some ⟨.str x, false⟩, c, by rw [web_snoc]⟩
    have o1 := idx_dT dO (tab_look ht1 hx).1
    have o2 := idx_dT dO (tab_look ht2 hx).1
    have pw := fun ps => put_W (ps := ps) hl hk
    generalize P (pre ++ [x]) = PP at hP
    generalize webOf pre p ready part = WW at hP pw
    have em0 : ∀ y, mulD (.lst [y]) (.int 0) = some (.tmp (.lst [])) := fun y => rfl
    have em1 : ∀ y, mulD (.lst [y]) (.int 1) = some (.tmp (.lst [y])) := fun y => rfl
    have ea0 : ∀ y, addD (.lst [y]) (.lst []) = some (.tmp (.lst [y])) := fun y => rfl
    have ea1 : ∀ y z, addD (.lst [y]) (.lst [z]) = some (.tmp (.lst [y, z])) := fun y z => rfl
    by_cases h1 : x ∈ ready
    · have h2 : x ∉ part := fun z => hd x z h1
      have es : spW p ready part x = [look p.2 x] := by unfold spW; rw [if_pos h1]
      have pw := pw [look p.2 x]
      rw [es] at hP
      simp only [lO, List.map_cons, List.map_nil] at pw
      simp [fnM, fnR, ent, mSeq, mSet, mV, mC, mOp1, mOp2, mChain, mAnd, mOr, mNot, mIf, mArgs, escAll, esc, soft, pk, hard, put, puts, mHards, mPar, mTup, mLst, mDct0, mCall, mRest, mRt, mRtN, mNx, mEx, mIte, mMut, mPut, mIt, bindT, bindTs, isAtom, isLst, isDK, plainAt, wipeE, backE, mFor, mLc, mDc, mWhile, mBk, mCt, mNo, mSl, mNoP, mPt, mJoin, mRng1, mRng2, mZip, mCallK, pickL, mMeth, mProp, mMake, mFld, fnI, fnIR, mDisp, mPairs, o2I, gtI, geI, leI, mStar, mStarT, mStarL, mAugI, mIndex, inD, in_tup, h1, h2, o1, o2, intD, em0, em1, ea0, ea1, pw]
      exact hP _
    · by_cases h2 : x ∈ part
      · by_cases h3 : look p.2 x = look p.1 x
        · have es : spW p ready part x = [look p.1 x] := by unfold spW; rw [if_neg h1, if_neg (fun z => z.2 h3)]
          have pw := pw [look p.1 x]
          rw [es] at hP
          simp only [lO, List.map_cons, List.map_nil] at pw
          simp [fnM, fnR, ent, mSeq, mSet, mV, mC, mOp1, mOp2, mChain, mAnd, mOr, mNot, mIf, mArgs, escAll, esc, soft, pk, hard, put, puts, mHards, mPar, mTup, mLst, mDct0, mCall, mRest, mRt, mRtN, mNx, mEx, mIte, mMut, mPut, mIt, bindT, bindTs, isAtom, isLst, isDK, plainAt, wipeE, backE, mFor, mLc, mDc, mWhile, mBk, mCt, mNo, mSl, mNoP, mPt, mJoin, mRng1, mRng2, mZip, mCallK, pickL, mMeth, mProp, mMake, mFld, fnI, fnIR, mDisp, mPairs, o2I, gtI, geI, leI, mStar, mStarT, mStarL, mAugI, mIndex, inD, in_tup, h1, h2, h3, o1, o2, ne_dO, intD, em0, em1, ea0, ea1, pw]
          exact hP _
        · have es : spW p ready part x = [look p.1 x, look p.2 x] := by unfold spW; rw [if_neg h1, if_pos ⟨h2, h3⟩]
          have pw := pw [look p.1 x, look p.2 x]
          rw [es] at hP
          simp only [lO, List.map_cons, List.map_nil] at pw
          simp [fnM, fnR, ent, mSeq, mSet, mV, mC, mOp1, mOp2, mChain, mAnd, mOr, mNot, mIf, mArgs, escAll, esc, soft, pk, hard, put, puts, mHards, mPar, mTup, mLst, mDct0, mCall, mRest, mRt, mRtN, mNx, mEx, mIte, mMut, mPut, mIt, bindT, bindTs, isAtom, isLst, isDK, plainAt, wipeE, backE, mFor, mLc, mDc, mWhile, mBk, mCt, mNo, mSl, mNoP, mPt, mJoin, mRng1, mRng2, mZip, mCallK, pickL, mMeth, mProp, mMake, mFld, fnI, fnIR, mDisp, mPairs, o2I, gtI, geI, leI, mStar, mStarT, mStarL, mAugI, mIndex, inD, in_tup, h1, h2, h3, o1, o2, ne_dO, intD, em0, em1, ea0, ea1, pw]
          exact hP _
      · have es : spW p ready part x = [look p.1 x] := by unfold spW; rw [if_neg h1, if_neg (fun z => h2 z.1)]
        have pw := pw [look p.1 x]
        rw [es] at hP
        simp only [lO, List.map_cons, List.map_nil] at pw
        simp [fnM, fnR, ent, mSeq, mSet, mV, mC, mOp1, mOp2, mChain, mAnd, mOr, mNot, mIf, mArgs, escAll, esc, soft, pk, hard, put, puts, mHards, mPar, mTup, mLst, mDct0, mCall, mRest, mRt, mRtN, mNx, mEx, mIte, mMut, mPut, mIt, bindT, bindTs, isAtom, isLst, isDK, plainAt, wipeE, backE, mFor, mLc, mDc, mWhile, mBk, mCt, mNo, mSl, mNoP, mPt, mJoin, mRng1, mRng2, mZip, mCallK, pickL, mMeth, mProp, mMake, mFld, fnI, fnIR, mDisp, mPairs, o2I, gtI, geI, leI, mStar, mStarT, mStarL, mAugI, mIndex, inD, in_tup, h1, h2, o1, o2, intD, em0, em1, ea0, ea1, pw]
        exact hP _
  · rintro fl s' ⟨rfl, a7, a8, rfl⟩
    simp [fnM, fnR, ent, mSeq, mSet, mV, mC, mOp1, mOp2, mChain, mAnd, mOr, mNot, mIf, mArgs, escAll, esc, soft, pk, hard, put, puts, mHards, mPar, mTup, mLst, mDct0, mCall, mRest, mRt, mRtN, mNx, mEx, mIte, mMut, mPut, mIt, bindT, bindTs, isAtom, isLst, isDK, plainAt, wipeE, backE, mFor, mLc, mDc, mWhile, mBk, mCt, mNo, mSl, mNoP, mPt, mJoin, mRng1, mRng2, mZip, mCallK, pickL, mMeth, mProp, mMake, mFld, fnI, fnIR, mDisp, mPairs, o2I, gtI, geI, leI, mStar, mStarT, mStarL, mAugI, mIndex]
end
end RW
namespace RW
open PySem L2 Gr
section
variable {R : Type} {T : Fm R}
def c0 (od : Option D) : Option Cell := od.map fun d => ⟨d, false⟩
def dR (p : List Str) : D := .tup (dS p)
def stp (W : Web) (n : Str) (p : List Str) : List (List Str) := ((nx W (p.getLastD n)).filter fun x => decide (ltS n x) && !decide (x ∈ p)).map fun x => p ++ [x]
theorem stp_len {W : Web} {m : Nat} (hW : WebOk W m) (n : Str) (p : List Str) : (stp W n p).length ≤ 2 := by
  unfold stp
  rw [List.length_map]
  exact Nat.le_trans (List.length_filter_le _ _) (Nat.le_trans (nx_len _ _) (hW.two _))
theorem flat_len {α β : Type} {f : α → List β} {k : Nat} (h : ∀ x, (f x).length ≤ k) : ∀ l : List α, (l.flatMap f).length ≤ k * l.length
  | [] => by simp
  | a :: l => by
    rw [List.flatMap_cons, List.length_append, List.length_cons, Nat.mul_succ]
    have := h a
    have := flat_len h l
    omega
theorem rows_len {W : Web} {m : Nat} (hW : WebOk W m) (n : Str) : ∀ k, (rows (nx W) ltS n k).length ≤ 2 ^ k
  | 0 => by simp [rows]
  | k + 1 => by
    rw [rows]
    have := flat_len (f := stp W n) (fun p => stp_len hW n p) (rows (nx W) ltS n k)
    have := rows_len hW n k
    rw [Nat.pow_succ]
    show ((rows (nx W) ltS n k).flatMap (stp W n)).length ≤ _
    omega
theorem last_tup (l : List Str) (z : Str) : idxD (dR (l ++ [z])) (.int (-1)) = some (.sh (.str z)) := by
  unfold dR idxD
  have : atI (dS (l ++ [z])) (-1) = some (.str z) := by
    unfold atI ixN
    have h1 : (dS (l ++ [z])).length = l.length + 1 := by simp [dS]
    rw [h1, if_neg (by omega), if_pos (by omega)]
    show (dS (l ++ [z]))[((-1 : Int) + ((l.length + 1 : Nat) : Int)).toNat]? = _
    have h2 : ((-1 : Int) + ((l.length + 1 : Nat) : Int)).toNat = l.length := by omega
    rw [h2]
    simp [dS]
  simp [this, idxS]
theorem neg_one : negD (.int 1) = some (.sh (.int (-1))) := rfl
theorem in_dR (x : Str) (p : List Str) : inB (.str x) (dR p) = some (decide (x ∈ p)) := in_tup x p
theorem seq_dR (p : List Str) : seqOf (dR p) = some (dS p) := rfl
theorem gt_S (x y : Str) : gtD (.str x) (.str y) = some (.sh (.bl (decide (ltS y x)))) := rfl
theorem row_last {W : Web} {n : Str} (hn : n ∈ kW W) {j : Nat} {l : List Str} {z : Str} (h : l ++ [z] ∈ rows (nx W) ltS n j) : z ∈ kW W := by
  obtain ⟨rp, rl, rh⟩ := (mem_rows j _).mp h
  cases l with
  | nil => simp at rh; rw [rh]; exact hn
  | cons c l =>
    obtain ⟨l', y, e⟩ := snoc_of (l := c :: l) (List.cons_ne_nil _ _)
    rw [e, List.append_assoc] at rp
    exact nx_in _ _ (ch_snoc.mp rp.ch).2
theorem in_pl (W : Web) {n : Str} (hn : n ∈ kW W) (z : Str) : inB (.str n) (dPl (plW W z)) = some (decide (n ∈ nx W z)) := by
  have := in_lstO (some n) (plW W z)
  have e : decide (some n ∈ plW W z) = decide (n ∈ nx W z) := by
    by_cases h : some n ∈ plW W z
    · rw [decide_eq_true h, decide_eq_true (nx_mem.mpr ⟨h, hn⟩)]
    · rw [decide_eq_false h, decide_eq_false fun h' => h (nx_mem.mp h').1]
  rw [e] at this
  exact this
theorem rings_from_ok {W : Web} {m : Nat} (hW : WebOk W m) {n : Str} (hn : n ∈ kW W) {k : Nat} (hk : 1 ≤ k) (hk8 : k ≤ 8) (r : R) :
    f_rings_from T [dW W, .str n, .int k] r = some (.tmp (.lst (((rows (nx W) ltS n (k - 1)).filter fun p => decide (n ∈ nx W (p.getLastD n))).map dR)), r) := by
  generalize hX : ((rows (nx W) ltS n (k - 1)).filter fun p => decide (n ∈ nx W (p.getLastD n))).map dR = X0
  suffices h : Ev (f_rings_from T [dW W, .str n, .int k] r) (fun v r' => v = .tmp (.lst X0) ∧ r' = r) by
    obtain ⟨v, r', e, rfl, rfl⟩ := h
    exact e
  unfold f_rings_from m_rings_from
  generalize hF : mFor _ _ _ = F1
  generalize hL : mLc [6] _ _ _ _ = L1
  simp [fnM, fnR, ent, mSeq, mSet, mV, mC, mOp1, mOp2, mChain, mAnd, mOr, mNot, mIf, mArgs, escAll, esc, soft, pk, hard, put, puts, mHards, mPar, mTup, mLst, mDct0, mCall, mRest, mRt, mRtN, mNx, mEx, mIte, mMut, mPut, mIt, bindT, bindTs, isAtom, isLst, isDK, plainAt, wipeE, backE, mFor, mLc, mDc, mWhile, mBk, mCt, mNo, mSl, mNoP, mPt, mJoin, mRng1, mRng2, mZip, mCallK, pickL, mMeth, mProp, mMake, mFld, fnI, fnIR, mDisp, mPairs, o2I, gtI, geI, leI, mStar, mStarT, mStarL, mAugI, mIndex, List.replicate]
  subst hF
  have hb : ∀ j, j ≤ 8 → (rows (nx W) ltS n j).length ≤ 256 := fun j hj => Nat.le_trans (rows_len hW n j) (by
    have : 2 ^ j ≤ 2 ^ 8 := Nat.pow_le_pow_right (by omega) hj
    simpa using this)
  let P : Nat → S R → Prop := fun j s => ∃ (b : Bool) (a4 a5 : Option Cell) (a6 : Option D), s = ⟨[some ⟨dW W, false⟩, some ⟨.str n, false⟩, some ⟨.int k, false⟩, some ⟨.lst ((rows (nx W) ltS n j).map dR), b⟩, a4, a5, c0 a6, none], r⟩
  refine (mFor_ev (ds := rangeOf (k - 1) 0) (s1 := ⟨[some ⟨dW W, false⟩, some ⟨.str n, false⟩, some ⟨.int k, false⟩, some ⟨.lst [.tup [.str n]], true⟩, none, none, none, none], r⟩) (rng1 (i := (k : Int) - 1) (by simp [fnM, fnR, ent, mSeq, mSet, mV, mC, mOp1, mOp2, mChain, mAnd, mOr, mNot, mIf, mArgs, escAll, esc, soft, pk, hard, put, puts, mHards, mPar, mTup, mLst, mDct0, mCall, mRest, mRt, mRtN, mNx, mEx, mIte, mMut, mPut, mIt, bindT, bindTs, isAtom, isLst, isDK, plainAt, wipeE, backE, mFor, mLc, mDc, mWhile, mBk, mCt, mNo, mSl, mNoP, mPt, mJoin, mRng1, mRng2, mZip, mCallK, pickL, mMeth, mProp, mMake, mFld, fnI, fnIR, mDisp, mPairs, o2I, gtI, geI, leI, mStar, mStarT, mStarL, mAugI, mIndex]) (by omega) (by omega)) (rep_ev (k - 1) 0 P (fun j s hj hs => ?_) _ ⟨true, none, none, none, rfl⟩)).mono ?_
  · obtain ⟨b, a4, a5, a6, rfl⟩ := hs
    generalize hF2 : mFor _ _ _ = F2
    simp [fnM, fnR, ent, mSeq, mSet, mV, mC, mOp1, mOp2, mChain, mAnd, mOr, mNot, mIf, mArgs, escAll, esc, soft, pk, hard, put, puts, mHards, mPar, mTup, mLst, mDct0, mCall, mRest, mRt, mRtN, mNx, mEx, mIte, mMut, mPut, mIt, bindT, bindTs, isAtom, isLst, isDK, plainAt, wipeE, backE, mFor, mLc, mDc, mWhile, mBk, mCt, mNo, mSl, mNoP, mPt, mJoin, mRng1, mRng2, mZip, mCallK, pickL, mMeth, mProp, mMake, mFld, fnI, fnIR, mDisp, mPairs, o2I, gtI, geI, leI, mStar, mStarT, mStarL, mAugI, mIndex]
    subst hF2
    let P2 : List (List Str) → S R → Prop := fun pre s => ∃ (a6 : Option D), s = ⟨[some ⟨dW W, false⟩, some ⟨.str n, false⟩, some ⟨.int k, false⟩, some ⟨.lst ((rows (nx W) ltS n j).map dR), false⟩, some ⟨.int j, false⟩, some ⟨.lst ((pre.flatMap (stp W n)).map dR), true⟩, c0 a6, none], r⟩
    refine (mFor_ev (ds := (rows (nx W) ltS n j).map dR) (s1 := ⟨[some ⟨dW W, false⟩, some ⟨.str n, false⟩, some ⟨.int k, false⟩, some ⟨.lst ((rows (nx W) ltS n j).map dR), false⟩, some ⟨.int j, false⟩, some ⟨.lst [], true⟩, c0 a6, none], r⟩) (by cases b <;> simp [fnM, fnR, ent, mSeq, mSet, mV, mC, mOp1, mOp2, mChain, mAnd, mOr, mNot, mIf, mArgs, escAll, esc, soft, pk, hard, put, puts, mHards, mPar, mTup, mLst, mDct0, mCall, mRest, mRt, mRtN, mNx, mEx, mIte, mMut, mPut, mIt, bindT, bindTs, isAtom, isLst, isDK, plainAt, wipeE, backE, mFor, mLc, mDc, mWhile, mBk, mCt, mNo, mSl, mNoP, mPt, mJoin, mRng1, mRng2, mZip, mCallK, pickL, mMeth, mProp, mMake, mFld, fnI, fnIR, mDisp, mPairs, o2I, gtI, geI, leI, mStar, mStarT, mStarL, mAugI, mIndex, itemsOf]) (each_ev dR (rows (nx W) ltS n j) P2 (fun pre p post s e1 hs => ?_) _ ⟨a6, rfl⟩)).mono ?_
    · obtain ⟨a6, rfl⟩ := hs
      have hp : p ∈ rows (nx W) ltS n j := by rw [e1]; simp
      obtain ⟨rp, rl, rh⟩ := (mem_rows j p).mp hp
      obtain ⟨l, z, rfl⟩ := snoc_of rp.ne
      have hz : z ∈ kW W := row_last hn hp
      have hst : stp W n (l ++ [z]) = ((nx W z).filter fun x => decide (ltS n x) && !decide (x ∈ l ++ [z])).map fun x => l ++ [z] ++ [x] := by
        unfold stp; rw [List.getLastD_concat]
      generalize hL2 : mLc _ _ _ _ _ = L2
      have eL2 : L2 ⟨[some ⟨dW W, false⟩, some ⟨.str n, false⟩, some ⟨.int k, false⟩, some ⟨.lst ((rows (nx W) ltS n j).map dR), false⟩, some ⟨.int j, false⟩, some ⟨.lst ((pre.flatMap (stp W n)).map dR), true⟩, some ⟨dR (l ++ [z]), false⟩, none], r⟩ = some (.tmp (.lst ((stp W n (l ++ [z])).map dR)), ⟨[some ⟨dW W, false⟩, some ⟨.str n, false⟩, some ⟨.int k, false⟩, some ⟨.lst ((rows (nx W) ltS n j).map dR), false⟩, some ⟨.int j, false⟩, some ⟨.lst ((pre.flatMap (stp W n)).map dR), true⟩, some ⟨dR (l ++ [z]), false⟩, none], r⟩) := by
        rw [← hL2, hst, List.map_map]
        refine mLc_enc D.str (fun x => decide (ltS n x) && !decide (x ∈ l ++ [z])) _ (nx W z) ?_ (by rfl) (fun x hx => ?_) (by have := nx_len W z; have := hW.two z; unfold sizeLine; omega)
        · simp [fnM, fnR, ent, mSeq, mSet, mV, mC, mOp1, mOp2, mChain, mAnd, mOr, mNot, mIf, mArgs, escAll, esc, soft, pk, hard, put, puts, mHards, mPar, mTup, mLst, mDct0, mCall, mRest, mRt, mRtN, mNx, mEx, mIte, mMut, mPut, mIt, bindT, bindTs, isAtom, isLst, isDK, plainAt, wipeE, backE, mFor, mLc, mDc, mWhile, mBk, mCt, mNo, mSl, mNoP, mPt, mJoin, mRng1, mRng2, mZip, mCallK, pickL, mMeth, mProp, mMake, mFld, fnI, fnIR, mDisp, mPairs, o2I, gtI, geI, leI, mStar, mStarT, mStarL, mAugI, mIndex, neg_one, last_tup, next_nodes_ok hz (by have := hW.two z; omega), itemsOf, dS]
        · by_cases h1 : ltS n x
          · have hl : l.length + 1 + 1 ≤ sizeLine := by
              have : (l ++ [z]).length = j + 1 := rl
              simp at this
              unfold sizeLine; omega
            simp [fnM, fnR, ent, mSeq, mSet, mV, mC, mOp1, mOp2, mChain, mAnd, mOr, mNot, mIf, mArgs, escAll, esc, soft, pk, hard, put, puts, mHards, mPar, mTup, mLst, mDct0, mCall, mRest, mRt, mRtN, mNx, mEx, mIte, mMut, mPut, mIt, bindT, bindTs, isAtom, isLst, isDK, plainAt, wipeE, backE, mFor, mLc, mDc, mWhile, mBk, mCt, mNo, mSl, mNoP, mPt, mJoin, mRng1, mRng2, mZip, mCallK, pickL, mMeth, mProp, mMake, mFld, fnI, fnIR, mDisp, mPairs, o2I, gtI, geI, leI, mStar, mStarT, mStarL, mAugI, mIndex, gt_S, ninD, in_dR, seq_dR, h1, dS_length, hl]
            intro _ _
            simp [dR, dS]
          · simp [fnM, fnR, ent, mSeq, mSet, mV, mC, mOp1, mOp2, mChain, mAnd, mOr, mNot, mIf, mArgs, escAll, esc, soft, pk, hard, put, puts, mHards, mPar, mTup, mLst, mDct0, mCall, mRest, mRt, mRtN, mNx, mEx, mIte, mMut, mPut, mIt, bindT, bindTs, isAtom, isLst, isDK, plainAt, wipeE, backE, mFor, mLc, mDc, mWhile, mBk, mCt, mNo, mSl, mNoP, mPt, mJoin, mRng1, mRng2, mZip, mCallK, pickL, mMeth, mProp, mMake, mFld, fnI, fnIR, mDisp, mPairs, o2I, gtI, geI, leI, mStar, mStarT, mStarL, mAugI, mIndex, gt_S, h1]
      have hsz : (pre.flatMap (stp W n)).length + (stp W n (l ++ [z])).length ≤ sizeLine := by
        have h1 := flat_len (f := stp W n) (fun p => stp_len hW n p) pre
        have h2 := stp_len hW n (l ++ [z])
        have h3 : pre.length ≤ (rows (nx W) ltS n j).length := by rw [e1]; simp
        have h4 := hb j (by omega)
        unfold sizeLine; omega
      have hP : P2 (pre ++ [l ++ [z]]) ⟨[some ⟨dW W, false⟩, some ⟨.str n, false⟩, some ⟨.int k, false⟩, some ⟨.lst ((rows (nx W) ltS n j).map dR), false⟩, some ⟨.int j, false⟩, some ⟨.lst ((pre.flatMap (stp W n)).map dR ++ (stp W n (l ++ [z])).map dR), true⟩, some ⟨dR (l ++ [z]), false⟩, none], r⟩ := by
        refine ⟨some (dR (l ++ [z])), ?_⟩
        rw [List.flatMap_append, List.flatMap_cons, List.flatMap_nil, List.append_nil, List.map_append]; rfl
      generalize stp W n (l ++ [z]) = Y at eL2 hsz hP
      generalize pre.flatMap (stp W n) = Z at eL2 hsz hP
      generalize hPP : P2 (pre ++ [l ++ [z]]) = PP at hP
      simp [fnM, fnR, ent, mSeq, mSet, mV, mC, mOp1, mOp2, mChain, mAnd, mOr, mNot, mIf, mArgs, escAll, esc, soft, pk, hard, put, puts, mHards, mPar, mTup, mLst, mDct0, mCall, mRest, mRt, mRtN, mNx, mEx, mIte, mMut, mPut, mIt, bindT, bindTs, isAtom, isLst, isDK, plainAt, wipeE, backE, mFor, mLc, mDc, mWhile, mBk, mCt, mNo, mSl, mNoP, mPt, mJoin, mRng1, mRng2, mZip, mCallK, pickL, mMeth, mProp, mMake, mFld, fnI, fnIR, mDisp, mPairs, o2I, gtI, geI, leI, mStar, mStarT, mStarL, mAugI, mIndex, eL2, extL, hsz, hP]
    · rintro fl s' ⟨rfl, a6, rfl⟩
      simp [fnM, fnR, ent, mSeq, mSet, mV, mC, mOp1, mOp2, mChain, mAnd, mOr, mNot, mIf, mArgs, escAll, esc, soft, pk, hard, put, puts, mHards, mPar, mTup, mLst, mDct0, mCall, mRest, mRt, mRtN, mNx, mEx, mIte, mMut, mPut, mIt, bindT, bindTs, isAtom, isLst, isDK, plainAt, wipeE, backE, mFor, mLc, mDc, mWhile, mBk, mCt, mNo, mSl, mNoP, mPt, mJoin, mRng1, mRng2, mZip, mCallK, pickL, mMeth, mProp, mMake, mFld, fnI, fnIR, mDisp, mPairs, o2I, gtI, geI, leI, mStar, mStarT, mStarL, mAugI, mIndex]
      exact ⟨false, _, _, a6, rfl⟩
  · rintro fl s' ⟨rfl, b, a4, a5, a6, rfl⟩
    have eL : L1 ⟨[some ⟨dW W, false⟩, some ⟨.str n, false⟩, some ⟨.int k, false⟩, some ⟨.lst ((rows (nx W) ltS n (k - 1)).map dR), b⟩, a4, a5, c0 a6, none], r⟩ = some (.tmp (.lst X0), ⟨[some ⟨dW W, false⟩, some ⟨.str n, false⟩, some ⟨.int k, false⟩, some ⟨.lst ((rows (nx W) ltS n (k - 1)).map dR), false⟩, a4, a5, c0 a6, none], r⟩) := by
      rw [← hL, ← hX]
      refine mLc_enc dR (fun p => decide (n ∈ nx W (p.getLastD n))) dR (rows (nx W) ltS n (k - 1)) ?_ (by cases a6 <;> rfl) (fun p hp => ?_) (by have := hb (k - 1) (by omega); unfold sizeLine; omega)
      · cases b <;> simp [fnM, fnR, ent, mSeq, mSet, mV, mC, mOp1, mOp2, mChain, mAnd, mOr, mNot, mIf, mArgs, escAll, esc, soft, pk, hard, put, puts, mHards, mPar, mTup, mLst, mDct0, mCall, mRest, mRt, mRtN, mNx, mEx, mIte, mMut, mPut, mIt, bindT, bindTs, isAtom, isLst, isDK, plainAt, wipeE, backE, mFor, mLc, mDc, mWhile, mBk, mCt, mNo, mSl, mNoP, mPt, mJoin, mRng1, mRng2, mZip, mCallK, pickL, mMeth, mProp, mMake, mFld, fnI, fnIR, mDisp, mPairs, o2I, gtI, geI, leI, mStar, mStarT, mStarL, mAugI, mIndex, itemsOf]
      · obtain ⟨rp, rl, rh⟩ := (mem_rows _ p).mp hp
        obtain ⟨l, z, rfl⟩ := snoc_of rp.ne
        have hz : z ∈ kW W := row_last hn hp
        rw [List.getLastD_concat]
        cases a6 <;> simp [fnM, fnR, ent, mSeq, mSet, mV, mC, mOp1, mOp2, mChain, mAnd, mOr, mNot, mIf, mArgs, escAll, esc, soft, pk, hard, put, puts, mHards, mPar, mTup, mLst, mDct0, mCall, mRest, mRt, mRtN, mNx, mEx, mIte, mMut, mPut, mIt, bindT, bindTs, isAtom, isLst, isDK, plainAt, wipeE, backE, mFor, mLc, mDc, mWhile, mBk, mCt, mNo, mSl, mNoP, mPt, mJoin, mRng1, mRng2, mZip, mCallK, pickL, mMeth, mProp, mMake, mFld, fnI, fnIR, mDisp, mPairs, o2I, gtI, geI, leI, mStar, mStarT, mStarL, mAugI, mIndex, c0, neg_one, last_tup, idx_dT dPl (look_W hz), inD, in_pl W hn]
    simp [fnM, fnR, ent, mSeq, mSet, mV, mC, mOp1, mOp2, mChain, mAnd, mOr, mNot, mIf, mArgs, escAll, esc, soft, pk, hard, put, puts, mHards, mPar, mTup, mLst, mDct0, mCall, mRest, mRt, mRtN, mNx, mEx, mIte, mMut, mPut, mIt, bindT, bindTs, isAtom, isLst, isDK, plainAt, wipeE, backE, mFor, mLc, mDc, mWhile, mBk, mCt, mNo, mSl, mNoP, mPt, mJoin, mRng1, mRng2, mZip, mCallK, pickL, mMeth, mProp, mMake, mFld, fnI, fnIR, mDisp, mPairs, o2I, gtI, geI, leI, mStar, mStarT, mStarL, mAugI, mIndex, eL]
end
end RW
namespace Gr
section
variable {α : Type} [DecidableEq α] (N : α → List α)
/-- the steps from x end behind v -/
def EndsAt (x : α) (v : Nat) : Prop := wk N v x = true ∧ wk N (v + 1) x = false
/-- one more than the greatest, 0 of none -/
def mx : List Nat → Nat
  | [] => 0
  | a :: l => max (a + 1) (mx l)
variable {N}
theorem mx_ge : ∀ {l : List Nat} {a : Nat}, a ∈ l → a + 1 ≤ mx l
  | b :: l, a, h => by
    rw [mx]
    rcases List.mem_cons.mp h with e | h
    · subst e; omega
    · have := mx_ge h; omega
theorem mx_at : ∀ {l : List Nat}, l ≠ [] → ∃ a ∈ l, mx l = a + 1
  | [a], _ => ⟨a, List.mem_singleton.mpr rfl, by simp [mx]⟩
  | a :: b :: l, _ => by
    obtain ⟨c, hc, e⟩ := mx_at (l := b :: l) (List.cons_ne_nil _ _)
    rcases Nat.lt_or_ge (a + 1) (mx (b :: l)) with h | h
    · refine ⟨c, List.mem_cons_of_mem _ hc, ?_⟩
      rw [mx]; omega
    · refine ⟨a, List.mem_cons_self, ?_⟩
      rw [mx]; omega
theorem ends_next {x : α} {f : α → Nat} (h : ∀ y ∈ N x, EndsAt N y (f y)) : EndsAt N x (mx ((N x).map f)) := by
  constructor
  · by_cases hn : N x = []
    · rw [hn]; rfl
    · obtain ⟨a, ha, e⟩ := mx_at (l := (N x).map f) (by simpa using hn)
      obtain ⟨y, hy, rfl⟩ := List.mem_map.mp ha
      rw [e]
      exact wk_succ.mpr ⟨y, hy, (h y hy).1⟩
  · cases hw : wk N (mx ((N x).map f) + 1) x with
    | false => rfl
    | true =>
      obtain ⟨y, hy, w⟩ := wk_succ.mp hw
      have := mx_ge (List.mem_map_of_mem (f := f) hy)
      have := wk_le this w
      rw [(h y hy).2] at this; cases this
end
end Gr
namespace RW
open PySem L2 Gr
/-! ### the least ranks -/
abbrev Rk := List (Str × Nat)
def inK (t : Rk) (y : Str) : Bool := decide (y ∈ t.map (·.1))
def rkAt (t : Rk) (x : Str) : Nat := (t.lookup x).getD 0
section
variable {R : Type} {T : Fm R}
/-- what holds between the steps of ranks_in: pre of turn j -/
structure RkI (W : Web) (j : Nat) (pre : List Str) (t : Rk) : Prop where
  nd : (t.map (·.1)).Nodup
  ok : ∀ p ∈ t, p.1 ∈ kW W ∧ EndsAt (nx W) p.1 p.2
  all : ∀ x ∈ kW W, wk (nx W) j x = false → x ∈ t.map (·.1)
  new : ∀ x ∈ pre, wk (nx W) (j + 1) x = false → x ∈ t.map (·.1)
theorem RkI.len {W : Web} {j : Nat} {pre : List Str} {t : Rk} (h : RkI W j pre t) : t.length ≤ W.length := by
  have := nodup_len h.nd (V := kW W) fun x hx => by
    obtain ⟨p, hp, rfl⟩ := List.mem_map.mp hx
    exact (h.ok p hp).1
  rw [List.length_map] at this
  unfold kW at this
  rw [List.length_map] at this
  exact this
theorem RkI.at {W : Web} {j : Nat} {pre : List Str} {t : Rk} (h : RkI W j pre t) {x : Str} (hx : x ∈ t.map (·.1)) : EndsAt (nx W) x (rkAt t x) := by
  obtain ⟨p, hp, rfl⟩ := List.mem_map.mp hx
  have := lookup_of_mem h.nd hp
  unfold rkAt
  rw [this]
  exact (h.ok p hp).2
theorem RkI.put {W : Web} {j : Nat} {pre : List Str} {t : Rk} (h : RkI W j pre t) {x : Str} (hx : x ∈ kW W) (hn : x ∉ t.map (·.1)) (ha : ∀ y ∈ nx W x, y ∈ t.map (·.1)) : RkI W j (pre ++ [x]) (t ++ [(x, mx ((nx W x).map (rkAt t)))]) := by
  refine ⟨?_, fun p hp => ?_, fun y hy hw => ?_, fun y hy hw => ?_⟩
  · rw [List.map_append]
    exact nodup_snoc.mpr ⟨h.nd, hn⟩
  · rcases List.mem_append.mp hp with z | z
    · exact h.ok p z
    · rw [List.mem_singleton.mp z]
      exact ⟨hx, ends_next fun y hy => h.at (ha y hy)⟩
  · rw [List.map_append]; exact List.mem_append_left _ (h.all y hy hw)
  · rw [List.map_append]
    rcases List.mem_append.mp hy with z | z
    · exact List.mem_append_left _ (h.new y z hw)
    · rw [List.mem_singleton.mp z]; simp
theorem RkI.full {W : Web} {pre : List Str} {t : Rk} (hnd : (kW W).Nodup) (h : RkI W W.length pre t) : (t.length = W.length) ↔ (kW W).all (fun x => !wk (nx W) W.length x) = true := by
  have hkl : (kW W).length = W.length := by unfold kW; rw [List.length_map]
  rw [List.all_eq_true]
  constructor
  · intro hl x hx
    by_cases hxt : x ∈ t.map (·.1)
    · have he := h.at hxt
      cases hw : wk (nx W) W.length x with
      | false => rfl
      | true =>
        have := wk_all nx_in hx (by rw [hkl]; exact hw) (rkAt t x + 1)
        rw [he.2] at this; cases this
    · exfalso
      have h2 : (x :: t.map (·.1)).Nodup := List.nodup_cons.mpr ⟨hxt, h.nd⟩
      have := nodup_len h2 (V := kW W) fun y hy => by
        rcases List.mem_cons.mp hy with e | hy
        · rw [e]; exact hx
        · obtain ⟨p, hp, rfl⟩ := List.mem_map.mp hy
          exact (h.ok p hp).1
      rw [List.length_cons, List.length_map, hkl] at this
      omega
  · intro ha
    have := nodup_len hnd (V := t.map (·.1)) fun x hx => h.all x hx (by simpa using ha x hx)
    rw [hkl, List.length_map] at this
    have := h.len
    omega
end
end RW
namespace RW
open PySem L2 Gr
/-! ### rows of texts in order -/
theorem ltS_lin : Lin ltS := by
  refine ⟨fun x h => List.lt_irrefl _ h, fun h1 h2 => List.lt_trans h1 h2, fun x y => ?_⟩
  by_cases h1 : ltS x y
  · exact .inl h1
  · by_cases h2 : ltS y x
    · exact .inr (.inr h2)
    · have e : x.cps.toList = y.cps.toList := List.le_antisymm (List.not_lt.mp h2) (List.not_lt.mp h1)
      refine .inr (.inl ?_)
      cases x; cases y
      simp only at e
      simpa using e
def lxS : List Str → List Str → Bool
  | [], [] => false
  | [], _ :: _ => true
  | _ :: _, [] => false
  | x :: xs, y :: ys => if x = y then lxS xs ys else decide (ltS x y)
theorem lxS_irr : ∀ x : List Str, lxS x x = false
  | [] => rfl
  | x :: xs => by rw [lxS, if_pos rfl]; exact lxS_irr xs
theorem lxS_tr : ∀ {x y z : List Str}, lxS x y = true → lxS y z = true → lxS x z = true
  | [], [], _, h, _ => by cases h
  | [], _ :: _, [], _, h => by cases h
  | [], _ :: _, _ :: _, _, _ => rfl
  | _ :: _, [], _, h, _ => by cases h
  | _ :: _, _ :: _, [], _, h => by cases h
  | x :: xs, y :: ys, z :: zs, h1, h2 => by
    rw [lxS] at h1 h2 ⊢
    by_cases e1 : x = y
    · subst e1
      rw [if_pos rfl] at h1
      by_cases e2 : x = z
      · subst e2
        rw [if_pos rfl] at h2 ⊢
        exact lxS_tr h1 h2
      · rw [if_neg e2] at h2 ⊢; exact h2
    · rw [if_neg e1] at h1
      have h1 := of_decide_eq_true h1
      by_cases e2 : y = z
      · subst e2
        rw [if_neg e1]; exact decide_eq_true h1
      · rw [if_neg e2] at h2
        have h2 := of_decide_eq_true h2
        have h3 := ltS_lin.tr h1 h2
        rw [if_neg (fun e => by rw [e] at h3; exact ltS_lin.irr _ h3)]
        exact decide_eq_true h3
theorem lxS_tri : ∀ x y : List Str, lxS x y = true ∨ x = y ∨ lxS y x = true
  | [], [] => .inr (.inl rfl)
  | [], _ :: _ => .inl rfl
  | _ :: _, [] => .inr (.inr rfl)
  | x :: xs, y :: ys => by
    rw [lxS, lxS]
    by_cases e : x = y
    · subst e
      rw [if_pos rfl, if_pos rfl]
      rcases lxS_tri xs ys with h | h | h
      · exact .inl h
      · exact .inr (.inl (by rw [h]))
      · exact .inr (.inr h)
    · rw [if_neg e, if_neg (fun z => e z.symm)]
      rcases ltS_lin.tri x y with h | h | h
      · exact .inl (decide_eq_true h)
      · exact absurd h e
      · exact .inr (.inr (decide_eq_true h))
theorem toPyAll_dS : ∀ xs : List Str, toPyAll (dS xs) = some (xs.map PyData.str)
  | [] => rfl
  | x :: xs => by
    have := toPyAll_dS xs
    unfold dS at this ⊢
    rw [List.map_cons, toPyAll, toPy, this]; rfl
theorem toPy_dR (p : List Str) : toPy (dR p) = some (.tuple (p.map PyData.str)) := by
  unfold dR
  rw [toPy, toPyAll_dS]; rfl
theorem pyD_dR (p : List Str) : pyD (dR p) = .tuple (p.map PyData.str) := by unfold pyD; rw [toPy_dR]; rfl
theorem alikeAll_S : ∀ xs ys : List Str, PySem.W.alikeAll (xs.map PyData.str) (ys.map PyData.str) = true
  | [], _ => by simp [PySem.W.alikeAll]
  | _ :: _, [] => by simp [PySem.W.alikeAll]
  | x :: xs, y :: ys => by
    rw [List.map_cons, List.map_cons, PySem.W.alikeAll, alikeAll_S xs ys]; simp [PySem.W.alike]
theorem rowLt_S : ∀ xs ys : List Str, PySem.W.rowLt (xs.map PyData.str) (ys.map PyData.str) = lxS xs ys
  | [], [] => by
    unfold PySem.W.rowLt; simp [PySem.W.keyToksAll, lxS]
    rw [PySem.W.lex_one]; decide
  | [], y :: ys => by
    unfold PySem.W.rowLt; simp only [PySem.W.keyToksAll, List.map_cons, List.map_nil, lxS]
    rw [PySem.W.lex_atom (by decide), PySem.W.lex_one]; decide
  | x :: xs, [] => by
    unfold PySem.W.rowLt; simp only [PySem.W.keyToksAll, List.map_cons, List.map_nil, lxS]
    rw [PySem.W.lex_atom (by decide), PySem.W.lex_one]; decide
  | x :: xs, y :: ys => by
    have ih := rowLt_S xs ys
    unfold PySem.W.rowLt at ih ⊢
    rw [List.map_cons, List.map_cons, PySem.W.dataLt_cons (by simp [PySem.W.alike]), ih, lxS, PySem.W.dataLt_str]
    have : PyData.eqv (.str x) (.str y) = decide (x = y) := by
      simp only [PyData.eqv]
      exact str_beq x y
    rw [this]
    by_cases e : x = y
    · simp [e]
    · simp [e]; rfl
theorem dataLt_R (p q : List Str) : PySem.W.dataLt (pyD (dR p)) (pyD (dR q)) = lxS p q := by
  rw [pyD_dR, pyD_dR, PySem.W.dataLt_tuple]
  exact rowLt_S p q
end RW
namespace RW
open PySem L2 Gr
/-! ### what can be reached -/
structure ReI (W : Web) (n : Str) (l : List Str) : Prop where
  nd : l.Nodup
  sub : ∀ x ∈ l, x ∈ kW W
  ok : ∀ x ∈ l, Reach (nx W) n x
  has : n ∈ l
theorem ReI.len {W : Web} {n : Str} {l : List Str} (h : ReI W n l) : l.length ≤ W.length := by
  have := nodup_len h.nd h.sub
  unfold kW at this
  rw [List.length_map] at this; exact this
theorem ReI.add {W : Web} {n x y : Str} {l : List Str} (h : ReI W n l) (hx : x ∈ l) (hy : y ∈ nx W x) (hn : y ∉ l) : ReI W n (l ++ [y]) := by
  refine ⟨nodup_snoc.mpr ⟨h.nd, hn⟩, fun z hz => ?_, fun z hz => ?_, List.mem_append_left _ h.has⟩
  · rcases List.mem_append.mp hz with hz | hz
    · exact h.sub z hz
    · rw [List.mem_singleton.mp hz]; exact nx_in _ _ hy
  · rcases List.mem_append.mp hz with hz | hz
    · exact h.ok z hz
    · rw [List.mem_singleton.mp hz]; exact (h.ok x hx).step hy
theorem ReI.start {W : Web} {n : Str} (hn : n ∈ kW W) : ReI W n [n] := ⟨by simp, fun x hx => by rw [List.mem_singleton.mp hx]; exact hn, fun x hx => by rw [List.mem_singleton.mp hx]; exact Reach.refl, by simp⟩
end RW
namespace RW
open PySem L2 Gr
/-! ### the least one of the shortest rings -/
abbrev RingW (W : Web) (p : List Str) : Prop := Ring (nx W) ltS p ∧ ∀ x ∈ p, x ∈ kW W
def BestR (W : Web) : Option (List Str) → Prop
  | none => ∀ p, ¬ RingW W p
  | some p => RingW W p ∧ ∀ q, RingW W q → p.length < q.length ∨ (p.length = q.length ∧ (p = q ∨ lxS p q = true))
theorem best_unique {W : Web} {o o' : Option (List Str)} (h : BestR W o) (h' : BestR W o') : o = o' := by
  cases o with
  | none =>
    cases o' with
    | none => rfl
    | some q => exact absurd h'.1 (h q)
  | some p =>
    cases o' with
    | none => exact absurd h.1 (h' p)
    | some q =>
      rcases h.2 q h'.1 with a | ⟨a, b⟩
      · rcases h'.2 p h.1 with c | ⟨c, _⟩ <;> omega
      · rcases b with b | b
        · rw [b]
        · rcases h'.2 p h.1 with c | ⟨_, c⟩
          · omega
          · rcases c with c | c
            · rw [c]
            · have := lxS_tr b c
              rw [lxS_irr] at this; cases this
theorem ring_two {W : Web} {m : Nat} (hW : WebOk W m) {p : List Str} (h : RingW W p) : 2 ≤ p.length ∧ p.length ≤ W.length := by
  constructor
  · obtain ⟨a, l, z, e1, e2, e3⟩ := h.1.back
    cases l with
    | nil =>
      rw [e1] at e2
      have : a = z := by simpa using e2
      subst this
      exact absurd (nx_mem.mp e3).1 (hW.self a)
    | cons b l => rw [e1]; simp
  · have := nodup_len h.1.nd h.2
    unfold kW at this; rw [List.length_map] at this; exact this
theorem ring_sub {W : Web} {p : List Str} (h : Ring (nx W) ltS p) : ∀ x ∈ p, x ∈ kW W := by
  have hc : Ch (nx W) p := h.ch
  obtain ⟨a, l, z, e1, e2, e3⟩ := h.back
  have ha : a ∈ kW W := nx_in _ _ e3
  subst e1
  intro x hx
  exact reach_in nx_in ha (reach_ch hc hx)
def minR (p : List Str) (ps : List (List Str)) : List Str := ps.foldl (fun a y => if lxS y a = true then y else a) p
theorem minL_R : ∀ (ps : List (List Str)) (p : List Str), minL (dR p) (ps.map dR) = dR (minR p ps)
  | [], p => rfl
  | q :: ps, p => by
    have e1 : minL (dR p) ((q :: ps).map dR) = minL (if PySem.W.dataLt (pyD (dR q)) (pyD (dR p)) = true then dR q else dR p) (ps.map dR) := rfl
    have e2 : minR p (q :: ps) = minR (if lxS q p = true then q else p) ps := rfl
    rw [e1, e2, dataLt_R, ← minL_R ps]
    congr 1
    split <;> rfl
theorem minR_spec : ∀ (ps : List (List Str)) (p : List Str), minR p ps ∈ p :: ps ∧ ∀ q ∈ p :: ps, minR p ps = q ∨ lxS (minR p ps) q = true
  | [], p => ⟨List.mem_singleton.mpr rfl, fun q hq => .inl (List.mem_singleton.mp hq).symm⟩
  | q :: ps, p => by
    have e2 : minR p (q :: ps) = minR (if lxS q p = true then q else p) ps := rfl
    obtain ⟨h1, h2⟩ := minR_spec ps (if lxS q p = true then q else p)
    rw [e2]
    by_cases hq : lxS q p = true
    · rw [if_pos hq] at h1 h2 ⊢
      refine ⟨List.mem_cons_of_mem _ h1, fun x hx => ?_⟩
      rcases List.mem_cons.mp hx with e | hx
      · subst e
        rcases h2 q List.mem_cons_self with z | z
        · rw [z]; exact .inr hq
        · exact .inr (lxS_tr z hq)
      · exact h2 x hx
    · rw [if_neg hq] at h1 h2 ⊢
      refine ⟨?_, fun x hx => ?_⟩
      · rcases List.mem_cons.mp h1 with e | e
        · rw [e]; exact List.mem_cons_self
        · exact List.mem_cons_of_mem _ (List.mem_cons_of_mem _ e)
      · rcases List.mem_cons.mp hx with e | hx
        · exact h2 x (by rw [e]; exact List.mem_cons_self)
        · rcases List.mem_cons.mp hx with e | hx
          · subst e
            rcases lxS_tri p x with t | t | t
            · rcases h2 p List.mem_cons_self with z | z
              · rw [z]; exact .inr t
              · exact .inr (lxS_tr z t)
            · rw [← t]; exact h2 p List.mem_cons_self
            · exact absurd t hq
          · exact h2 x (List.mem_cons_of_mem _ hx)
theorem toPyAll_R : ∀ ps : List (List Str), toPyAll (ps.map dR) = some (ps.map fun p => PyData.tuple (p.map PyData.str))
  | [] => rfl
  | p :: ps => by rw [List.map_cons, toPyAll, toPy_dR, toPyAll_R ps]; rfl
theorem depth_S : ∀ xs : List Str, PyData.depthAll (xs.map PyData.str) = 0
  | [] => rfl
  | x :: xs => by
    have := depth_S xs
    simp only [List.map_cons, PyData.depthAll, PyData.depth, this]; rfl
theorem depth_R : ∀ ps : List (List Str), PyData.depthAll (ps.map fun p => PyData.tuple (p.map PyData.str)) ≤ 1
  | [] => by simp [PyData.depthAll]
  | p :: ps => by
    have := depth_R ps
    simp only [List.map_cons, PyData.depthAll, PyData.depth, depth_S]
    omega
theorem okM_R (ps : List (List Str)) : okM (ps.map fun p => PyData.tuple (p.map PyData.str)) = true := by
  unfold okM
  rw [Bool.and_eq_true, Bool.and_eq_true, List.all_eq_true, List.all_eq_true]
  refine ⟨fun x hx => ?_, fun x hx => ?_, decide_eq_true (Nat.le_trans (depth_R ps) (by omega))⟩
  · rw [List.all_eq_true]
    intro y hy
    obtain ⟨p, _, rfl⟩ := List.mem_map.mp hx
    obtain ⟨q, _, rfl⟩ := List.mem_map.mp hy
    rw [PySem.W.alike]; exact alikeAll_S p q
  · obtain ⟨p, _, rfl⟩ := List.mem_map.mp hx
    rfl
theorem min_R (p : List Str) (ps : List (List Str)) : minF (.lst ((p :: ps).map dR)) = some (.sh (dR (minR p ps))) := by
  have h := toPyAll_R (p :: ps)
  rw [List.map_cons] at h ⊢
  have e : minF (.lst (dR p :: ps.map dR)) = minE (.lst (dR p :: ps.map dR)) := rfl
  rw [e]
  show (toPyAll (dR p :: ps.map dR)).bind (fun ps' => if okM ps' = true then some (Vr.sh (minL (dR p) (ps.map dR))) else none) = _
  rw [h]
  show (if okM ((p :: ps).map fun p => PyData.tuple (p.map PyData.str)) = true then some (Vr.sh (minL (dR p) (ps.map dR))) else none) = _
  rw [if_pos (okM_R _), minL_R]
section
variable {R : Type} {T : Fm R}
def dOR : Option (List Str) → D
  | none => .non
  | some p => dR p
theorem rngs_len {W : Web} {m : Nat} (hW : WebOk W m) (k : Nat) (hk : k ≤ 8) (pre : List Str) : (pre.flatMap fun n => (rows (nx W) ltS n (k - 1)).filter fun p => decide (n ∈ nx W (p.getLastD n))).length ≤ 128 * pre.length := by
  refine flat_len (fun n => ?_) pre
  refine Nat.le_trans (List.length_filter_le _ _) (Nat.le_trans (rows_len hW n (k - 1)) ?_)
  have : 2 ^ (k - 1) ≤ 2 ^ 7 := Nat.pow_le_pow_right (by omega) (by omega)
  simpa using this
theorem rng2 {ma mb : M R Vr} {s s1 s2 : S R} {lo hi : Int} {n : Nat} (h : ma s = some (.sh (.int lo), s1)) (h2 : mb s1 = some (.sh (.int hi), s2)) (hn : (hi - lo).toNat = n) (hs : lo.natAbs ≤ 1000) (hs2 : hi.natAbs ≤ 1000) : mRng2 ma mb s = some (rangeOf n lo, s2) := by
  unfold mRng2
  rw [h]
  simp only [Option.bind, h2]
  rw [if_pos ⟨by omega, by omega⟩, hn]
theorem ring_in_ok {W : Web} {m : Nat} (hW : WebOk W m) (hm : m ≤ 6) (r : R) : ∃ o, f_ring_in T [dW W] r = some (.sh (dOR o), r) ∧ BestR W o := by
  suffices h : Ev (f_ring_in T [dW W] r) (fun v r' => (∃ o, v = .sh (dOR o) ∧ BestR W o) ∧ r' = r) by
    obtain ⟨v, r', e, ⟨o, rfl, h⟩, rfl⟩ := h
    exact ⟨o, e, h⟩
  have hlen := hW.len
  unfold f_ring_in m_ring_in
  generalize hF : mFor _ _ _ = F1
  simp [fnM, fnR, ent, mSeq, mSet, mV, mC, mOp1, mOp2, mChain, mAnd, mOr, mNot, mIf, mArgs, escAll, esc, soft, pk, hard, put, puts, mHards, mPar, mTup, mLst, mDct0, mCall, mRest, mRt, mRtN, mNx, mEx, mIte, mMut, mPut, mIt, bindT, bindTs, isAtom, isLst, isDK, plainAt, wipeE, backE, mFor, mLc, mDc, mWhile, mBk, mCt, mNo, mSl, mNoP, mPt, mJoin, mRng1, mRng2, mZip, mCallK, pickL, mMeth, mProp, mMake, mFld, fnI, fnIR, mDisp, mPairs, o2I, gtI, geI, leI, mStar, mStarT, mStarL, mAugI, mIndex, List.replicate]
  subst hF
  let P : Nat → S R → Prop := fun j s => (∃ (a1 a2 a3 : Option Cell), s = ⟨[some ⟨dW W, false⟩, a1, a2, a3], r⟩) ∧ ∀ p, RingW W p → j + 2 ≤ p.length
  let Q : Vr → S R → Prop := fun v s => (∃ p, v = .sh (dR p) ∧ BestR W (some p)) ∧ s.r = r
  refine (mFor_ev (ds := rangeOf (W.length - 1) 2) (s1 := ⟨[some ⟨dW W, false⟩, none, none, none], r⟩) (rng2 (lo := 2) (hi := (W.length : Int) + 1) (s1 := ⟨[some ⟨dW W, false⟩, none, none, none], r⟩) rfl (by simp [fnM, fnR, ent, mSeq, mSet, mV, mC, mOp1, mOp2, mChain, mAnd, mOr, mNot, mIf, mArgs, escAll, esc, soft, pk, hard, put, puts, mHards, mPar, mTup, mLst, mDct0, mCall, mRest, mRt, mRtN, mNx, mEx, mIte, mMut, mPut, mIt, bindT, bindTs, isAtom, isLst, isDK, plainAt, wipeE, backE, mFor, mLc, mDc, mWhile, mBk, mCt, mNo, mSl, mNoP, mPt, mJoin, mRng1, mRng2, mZip, mCallK, pickL, mMeth, mProp, mMake, mFld, fnI, fnIR, mDisp, mPairs, o2I, gtI, geI, leI, mStar, mStarT, mStarL, mAugI, mIndex, len_dT, addD]) (by omega) (by omega) (by omega)) (rep_ret (W.length - 1) 2 P Q (fun j s hj hs => ?_) _ ⟨⟨none, none, none, rfl⟩, fun p hp => (ring_two hW hp).1⟩)).mono ?_
  · obtain ⟨⟨a1, a2, a3, rfl⟩, hlow⟩ := hs
    generalize hF2 : mFor _ _ _ = F2
    simp [fnM, fnR, ent, mSeq, mSet, mV, mC, mOp1, mOp2, mChain, mAnd, mOr, mNot, mIf, mArgs, escAll, esc, soft, pk, hard, put, puts, mHards, mPar, mTup, mLst, mDct0, mCall, mRest, mRt, mRtN, mNx, mEx, mIte, mMut, mPut, mIt, bindT, bindTs, isAtom, isLst, isDK, plainAt, wipeE, backE, mFor, mLc, mDc, mWhile, mBk, mCt, mNo, mSl, mNoP, mPt, mJoin, mRng1, mRng2, mZip, mCallK, pickL, mMeth, mProp, mMake, mFld, fnI, fnIR, mDisp, mPairs, o2I, gtI, geI, leI, mStar, mStarT, mStarL, mAugI, mIndex]
    subst hF2
    let f : Str → List (List Str) := fun n => (rows (nx W) ltS n (j + 2 - 1)).filter fun p => decide (n ∈ nx W (p.getLastD n))
    let P2 : List Str → S R → Prop := fun pre s => ∃ (a3 : Option Cell), s = ⟨[some ⟨dW W, false⟩, some ⟨.int (2 + j), false⟩, some ⟨.lst ((pre.flatMap f).map dR), true⟩, a3], r⟩
    refine (mFor_ev (ds := dS (kW W)) (s1 := ⟨[some ⟨dW W, false⟩, some ⟨.int (2 + j), false⟩, some ⟨.lst [], true⟩, a3], r⟩) (by simp [fnM, fnR, ent, mSeq, mSet, mV, mC, mOp1, mOp2, mChain, mAnd, mOr, mNot, mIf, mArgs, escAll, esc, soft, pk, hard, put, puts, mHards, mPar, mTup, mLst, mDct0, mCall, mRest, mRt, mRtN, mNx, mEx, mIte, mMut, mPut, mIt, bindT, bindTs, isAtom, isLst, isDK, plainAt, wipeE, backE, mFor, mLc, mDc, mWhile, mBk, mCt, mNo, mSl, mNoP, mPt, mJoin, mRng1, mRng2, mZip, mCallK, pickL, mMeth, mProp, mMake, mFld, fnI, fnIR, mDisp, mPairs, o2I, gtI, geI, leI, mStar, mStarT, mStarL, mAugI, mIndex, items_dT]; rfl) (each_ev D.str (kW W) P2 (fun pre x post s e1 hs => ?_) _ ⟨a3, rfl⟩)).mono ?_
    · obtain ⟨a3, rfl⟩ := hs
      have hx : x ∈ kW W := by rw [e1]; simp
      have ek : (2 + (j : Int)) = ((j + 2 : Nat) : Int) := by omega
      have er := rings_from_ok (T := T) hW hx (k := j + 2) (by omega) (by omega) r
      have hsz : (pre.flatMap f).length + (f x).length ≤ sizeLine := by
        have h1 := rngs_len hW (j + 2) (by omega) pre
        have h2 := rngs_len hW (j + 2) (by omega) [x]
        have h3 : pre.length ≤ W.length := by
          have : (kW W).length = W.length := by unfold kW; rw [List.length_map]
          rw [← this, e1]; simp
        have h2 : (f x).length ≤ 128 := by simpa [f] using h2
        have h1 : (pre.flatMap f).length ≤ 128 * pre.length := h1
        unfold sizeLine; omega
      have hP : P2 (pre ++ [x]) ⟨[some ⟨dW W, false⟩, some ⟨.int (2 + j), false⟩, some ⟨.lst ((pre.flatMap f).map dR ++ (f x).map dR), true⟩, some ⟨.str x, false⟩], r⟩ := by
        refine ⟨some ⟨.str x, false⟩, ?_⟩
        rw [List.flatMap_append, List.flatMap_cons, List.flatMap_nil, List.append_nil, List.map_append]
      have er : f_rings_from T [dW W, .str x, .int (2 + j)] r = some (.tmp (.lst ((f x).map dR)), r) := by rw [ek]; exact er
      generalize f x = Y at er hsz hP
      generalize pre.flatMap f = Z at hsz hP
      generalize P2 (pre ++ [x]) = PP at hP
      simp [fnM, fnR, ent, mSeq, mSet, mV, mC, mOp1, mOp2, mChain, mAnd, mOr, mNot, mIf, mArgs, escAll, esc, soft, pk, hard, put, puts, mHards, mPar, mTup, mLst, mDct0, mCall, mRest, mRt, mRtN, mNx, mEx, mIte, mMut, mPut, mIt, bindT, bindTs, isAtom, isLst, isDK, plainAt, wipeE, backE, mFor, mLc, mDc, mWhile, mBk, mCt, mNo, mSl, mNoP, mPt, mJoin, mRng1, mRng2, mZip, mCallK, pickL, mMeth, mProp, mMake, mFld, fnI, fnIR, mDisp, mPairs, o2I, gtI, geI, leI, mStar, mStarT, mStarL, mAugI, mIndex, er, extL, hsz, hP]
    · rintro fl s' ⟨rfl, a3, rfl⟩
      have hmem : ∀ p, p ∈ (kW W).flatMap f ↔ Ring (nx W) ltS p ∧ p.length = j + 2 ∧ ∃ n ∈ kW W, p.head? = some n := fun p => mem_ringsAt (by omega)
      generalize (kW W).flatMap f = Z at hmem
      have hcut : ∀ p, RingW W p → p.length = j + 2 → p ∈ Z := fun p hp hl => by
        refine (hmem p).mpr ⟨hp.1, hl, ?_⟩
        obtain ⟨a, l, e, _⟩ := hp.1.least
        exact ⟨a, hp.2 a (by rw [e]; exact List.mem_cons_self), by rw [e]; rfl⟩
      cases Z with
      | nil =>
        have e0 : gtD (.int 0) (.int 0) = some (.sh (.bl false)) := rfl
        simp [fnM, fnR, ent, mSeq, mSet, mV, mC, mOp1, mOp2, mChain, mAnd, mOr, mNot, mIf, mArgs, escAll, esc, soft, pk, hard, put, puts, mHards, mPar, mTup, mLst, mDct0, mCall, mRest, mRt, mRtN, mNx, mEx, mIte, mMut, mPut, mIt, bindT, bindTs, isAtom, isLst, isDK, plainAt, wipeE, backE, mFor, mLc, mDc, mWhile, mBk, mCt, mNo, mSl, mNoP, mPt, mJoin, mRng1, mRng2, mZip, mCallK, pickL, mMeth, mProp, mMake, mFld, fnI, fnIR, mDisp, mPairs, o2I, gtI, geI, leI, mStar, mStarT, mStarL, mAugI, mIndex, lenD, e0]
        refine ⟨⟨_, _, _, rfl⟩, fun p hp => ?_⟩
        have h1 := hlow p hp
        rcases Nat.lt_or_ge p.length (j + 3) with z | z
        · have := hcut p hp (by omega)
          simp at this
        · omega
      | cons p ps =>
        have e0 : gtD (.int ((ps.length : Int) + 1)) (.int 0) = some (.sh (.bl true)) := by
          simp only [gtD]; rw [decide_eq_true (by omega)]
        have e1 := min_R p ps
        rw [List.map_cons] at e1
        have hQ : Q (.sh (dR (minR p ps))) ⟨[some ⟨dW W, false⟩, some ⟨.int (2 + j), false⟩, some ⟨.lst (dR p :: ps.map dR), true⟩, a3], r⟩ := by
          obtain ⟨h1, h2⟩ := minR_spec ps p
          obtain ⟨g1, g2, _⟩ := (hmem _).mp h1
          refine ⟨⟨minR p ps, rfl, ⟨g1, ring_sub g1⟩, fun q hq => ?_⟩, rfl⟩
          have := hlow q hq
          rcases Nat.lt_or_ge (j + 2) q.length with z | z
          · left; omega
          · refine .inr ⟨by omega, h2 q (hcut q hq (by omega))⟩
        simp [fnM, fnR, ent, mSeq, mSet, mV, mC, mOp1, mOp2, mChain, mAnd, mOr, mNot, mIf, mArgs, escAll, esc, soft, pk, hard, put, puts, mHards, mPar, mTup, mLst, mDct0, mCall, mRest, mRt, mRtN, mNx, mEx, mIte, mMut, mPut, mIt, bindT, bindTs, isAtom, isLst, isDK, plainAt, wipeE, backE, mFor, mLc, mDc, mWhile, mBk, mCt, mNo, mSl, mNoP, mPt, mJoin, mRng1, mRng2, mZip, mCallK, pickL, mMeth, mProp, mMake, mFld, fnI, fnIR, mDisp, mPairs, o2I, gtI, geI, leI, mStar, mStarT, mStarL, mAugI, mIndex, lenD, e0, e1, hQ]
  · rintro fl s' (⟨rfl, ⟨a1, a2, a3, rfl⟩, hlow⟩ | ⟨v, rfl, ⟨p, rfl, hb⟩, hr⟩)
    · simp [fnM, fnR, ent, mSeq, mSet, mV, mC, mOp1, mOp2, mChain, mAnd, mOr, mNot, mIf, mArgs, escAll, esc, soft, pk, hard, put, puts, mHards, mPar, mTup, mLst, mDct0, mCall, mRest, mRt, mRtN, mNx, mEx, mIte, mMut, mPut, mIt, bindT, bindTs, isAtom, isLst, isDK, plainAt, wipeE, backE, mFor, mLc, mDc, mWhile, mBk, mCt, mNo, mSl, mNoP, mPt, mJoin, mRng1, mRng2, mZip, mCallK, pickL, mMeth, mProp, mMake, mFld, fnI, fnIR, mDisp, mPairs, o2I, gtI, geI, leI, mStar, mStarT, mStarL, mAugI, mIndex]
      refine ⟨none, rfl, fun p hp => ?_⟩
      have := hlow p hp
      have := ring_two hW hp
      omega
    · simp [fnM, fnR, ent, mSeq, mSet, mV, mC, mOp1, mOp2, mChain, mAnd, mOr, mNot, mIf, mArgs, escAll, esc, soft, pk, hard, put, puts, mHards, mPar, mTup, mLst, mDct0, mCall, mRest, mRt, mRtN, mNx, mEx, mIte, mMut, mPut, mIt, bindT, bindTs, isAtom, isLst, isDK, plainAt, wipeE, backE, mFor, mLc, mDc, mWhile, mBk, mCt, mNo, mSl, mNoP, mPt, mJoin, mRng1, mRng2, mZip, mCallK, pickL, mMeth, mProp, mMake, mFld, fnI, fnIR, mDisp, mPairs, o2I, gtI, geI, leI, mStar, mStarT, mStarL, mAugI, mIndex]
      exact ⟨⟨some p, rfl, hb⟩, hr⟩
end
end RW
namespace RW
open PySem L2 Gr
/-! ### the law's own rings -/
def dL (p : List Str) : D := .tup [.int p.length, dR p]
def lt2 (p q : List Str) : Bool := if p.length = q.length then lxS p q else decide (p.length < q.length)
theorem pyD_dL (p : List Str) : toPy (dL p) = some (.tuple [.int p.length, .tuple (p.map PyData.str)]) := by
  unfold dL
  rw [toPy, toPyAll, toPyAll, toPyAll, toPy, toPy_dR]; rfl
theorem eqvAll_S : ∀ xs ys : List Str, PyData.eqvAll (xs.map PyData.str) (ys.map PyData.str) = decide (xs = ys)
  | [], [] => by simp [PyData.eqvAll]
  | [], _ :: _ => by simp [PyData.eqvAll]
  | _ :: _, [] => by simp [PyData.eqvAll]
  | x :: xs, y :: ys => by
    rw [List.map_cons, List.map_cons, PyData.eqvAll, eqvAll_S xs ys]
    have : PyData.eqv (.str x) (.str y) = decide (x = y) := by simp only [PyData.eqv]; exact str_beq x y
    rw [this]
    by_cases e : x = y <;> by_cases e' : xs = ys <;> simp [e, e']
theorem dataLt_L (p q : List Str) : PySem.W.dataLt (pyD (dL p)) (pyD (dL q)) = lt2 p q := by
  unfold pyD
  rw [pyD_dL, pyD_dL]
  show PySem.W.dataLt (.tuple [.int p.length, .tuple (p.map PyData.str)]) (.tuple [.int q.length, .tuple (q.map PyData.str)]) = lt2 p q
  rw [PySem.W.dataLt_pair (by simp [PySem.W.alike]) (by rw [PySem.W.alike]; exact alikeAll_S p q), PySem.W.dataLt_int, PySem.W.dataLt_tuple]
  have h1 : PyData.eqv (.int p.length) (.int q.length) = decide (p.length = q.length) := by
    simp only [PyData.eqv]
    by_cases e : p.length = q.length
    · simp [e]
    · simp [e]; omega
  have h2 : PyData.eqv (.tuple (p.map PyData.str)) (.tuple (q.map PyData.str)) = decide (p = q) := by
    simp only [PyData.eqv]; exact eqvAll_S p q
  have h3 : PyProof.Rows.lexLt PyProof.Rows.itemOrd (PySem.W.keyToksAll (p.map PyData.str)) (PySem.W.keyToksAll (q.map PyData.str)) = lxS p q := rowLt_S p q
  rw [h1, h2, h3]
  unfold lt2
  by_cases e : p.length = q.length
  · rw [decide_eq_true e, if_pos rfl, if_pos e]
    by_cases e' : p = q
    · rw [e', decide_eq_true rfl, if_pos rfl, lxS_irr]
    · rw [decide_eq_false e', if_neg (by decide)]
  · rw [decide_eq_false e, if_neg (by decide), if_neg e]
    simp
def le2 (p q : List Str) : Bool := !lt2 q p
theorem lt2_iff {p q : List Str} : lt2 p q = true ↔ p.length < q.length ∨ (p.length = q.length ∧ lxS p q = true) := by
  unfold lt2
  by_cases e : p.length = q.length
  · rw [if_pos e]; simp [e]
  · rw [if_neg e]; simp [e]
theorem lt2_tr {p q s : List Str} (h1 : lt2 p q = true) (h2 : lt2 q s = true) : lt2 p s = true := by
  rw [lt2_iff] at *
  rcases h1 with h1 | ⟨h1, h3⟩ <;> rcases h2 with h2 | ⟨h2, h4⟩
  · left; omega
  · left; omega
  · left; omega
  · exact .inr ⟨by omega, lxS_tr h3 h4⟩
theorem lt2_tri (p q : List Str) : lt2 p q = true ∨ p = q ∨ lt2 q p = true := by
  rw [lt2_iff, lt2_iff]
  rcases Nat.lt_trichotomy p.length q.length with h | h | h
  · exact .inl (.inl h)
  · rcases lxS_tri p q with t | t | t
    · exact .inl (.inr ⟨h, t⟩)
    · exact .inr (.inl t)
    · exact .inr (.inr (.inr ⟨h.symm, t⟩))
  · exact .inr (.inr (.inl h))
theorem lt2_irr (p : List Str) : lt2 p p = false := by unfold lt2; rw [if_pos rfl]; exact lxS_irr p
theorem le2_total (a b : List Str) : (le2 a b || le2 b a) = true := by
  unfold le2
  rcases lt2_tri a b with h | h | h
  · cases e : lt2 b a with
    | false => simp
    | true => have := lt2_tr h e; rw [lt2_irr] at this; cases this
  · rw [h, lt2_irr]; rfl
  · cases e : lt2 a b with
    | false => simp
    | true => have := lt2_tr h e; rw [lt2_irr] at this; cases this
theorem le2_trans (a b c : List Str) (h1 : le2 a b = true) (h2 : le2 b c = true) : le2 a c = true := by
  unfold le2 at *
  rw [Bool.not_eq_true'] at *
  cases e : lt2 c a with
  | false => rfl
  | true =>
    rcases lt2_tri c b with h | h | h
    · rw [h] at h2; cases h2
    · subst h; rw [e] at h1; cases h1
    · have := lt2_tr h e; rw [this] at h1; cases h1
theorem srt_L (ps : List (List Str)) : srtL (ps.map dL) = (ps.mergeSort le2).map dL := by
  unfold srtL
  refine (List.map_mergeSort (f := dL) (r := le2) (s := PySem.W.dataLe false pyD) fun a _ b _ => ?_).symm
  rw [PySem.W.dataLe_eq]
  show le2 a b = !PySem.W.dataLt (pyD (dL b)) (pyD (dL a))
  rw [dataLt_L]; rfl
theorem sorted_best {W : Web} {ps : List (List Str)} (h : ∀ p, p ∈ ps ↔ RingW W p) : BestR W (ps.mergeSort le2).head? := by
  have pm := List.mergeSort_perm ps le2
  have pw := List.pairwise_mergeSort le2_trans le2_total ps
  cases e : ps.mergeSort le2 with
  | nil =>
    rw [e] at pm
    intro p hp
    have := pm.mem_iff.mpr ((h p).mpr hp)
    simp at this
  | cons a l =>
    rw [e] at pm pw
    refine ⟨(h a).mp (pm.mem_iff.mp List.mem_cons_self), fun q hq => ?_⟩
    have hm := pm.mem_iff.mpr ((h q).mpr hq)
    have hle : le2 a q = true := by
      rcases List.mem_cons.mp hm with z | z
      · subst z; unfold le2; rw [lt2_irr]; rfl
      · exact (List.pairwise_cons.mp pw).1 q z
    unfold le2 at hle
    rw [Bool.not_eq_true'] at hle
    rcases lt2_tri a q with t | t | t
    · rcases lt2_iff.mp t with z | z
      · exact .inl z
      · exact .inr ⟨z.1, .inr z.2⟩
    · exact .inr ⟨by rw [t], .inl t⟩
    · rw [t] at hle; cases hle
theorem toPyAll_L : ∀ ps : List (List Str), toPyAll (ps.map dL) = some (ps.map fun p => PyData.tuple [.int p.length, .tuple (p.map PyData.str)])
  | [] => rfl
  | p :: ps => by rw [List.map_cons, toPyAll, pyD_dL, toPyAll_L ps]; rfl
theorem okS_L (ps : List (List Str)) : okS (ps.map fun p => PyData.tuple [.int p.length, .tuple (p.map PyData.str)]) = true := by
  unfold okS
  rw [Bool.and_eq_true, Bool.and_eq_true, Bool.or_eq_true, List.all_eq_true]
  refine ⟨fun x hx => ?_, .inl ?_, ?_⟩
  · rw [List.all_eq_true]
    intro y hy
    obtain ⟨p, _, rfl⟩ := List.mem_map.mp hx
    obtain ⟨q, _, rfl⟩ := List.mem_map.mp hy
    simp [PySem.W.alike, PySem.W.alikeAll, alikeAll_S]
  · rw [List.all_eq_true]
    intro x hx
    obtain ⟨p, _, rfl⟩ := List.mem_map.mp hx
    rfl
  · rw [List.all_eq_true]
    intro x hx
    obtain ⟨p, _, rfl⟩ := List.mem_map.mp hx
    simp [PyData.depth, PyData.depthAll, depth_S]
theorem sort_L (ps : List (List Str)) : sortF (.lst (ps.map dL)) = some (.tmp (.lst ((ps.mergeSort le2).map dL))) := by
  cases ps with
  | nil => simp [sortF, sortD, strsOf, sortS]
  | cons p ps =>
    have h := toPyAll_L (p :: ps)
    have hk := okS_L (p :: ps)
    have hs := srt_L (p :: ps)
    generalize (p :: ps).mergeSort le2 = ms at hs
    have e : sortD (.lst ((p :: ps).map dL)) = none := rfl
    unfold sortF
    rw [e]
    show (toPyAll ((p :: ps).map dL)).bind (fun qs => if okS qs = true then some (Vr.tmp (.lst (srtL ((p :: ps).map dL)))) else none) = _
    rw [h]
    show (if okS _ = true then _ else none) = _
    rw [if_pos hk, hs]
end RW
namespace RW
open PySem L2 Gr
section
variable {R : Type} {T : Fm R}
def goodP (W : Web) (n : Str) (path : List Str) (p : Option Str) : Bool := !decide (p = some n) && (inW W p && (!decide (unO p ∈ path) && decide (ltS n (unO p))))
theorem head_tup (n : Str) (l : List Str) : idxD (dR (n :: l)) (.int 0) = some (.sh (.str n)) := by
  have : atI (dS (n :: l)) 0 = some (.str n) := by simp [atI, ixN, dS]
  simp [dR, idxD, idxS, this]
theorem cat_dR (p : List Str) (x : Str) (h : p.length ≤ 100) : addD (dR p) (.tup [.str x]) = some (.sh (dR (p ++ [x]))) := by
  unfold dR
  have : p.length + 1 ≤ sizeLine := by unfold sizeLine; omega
  simp [addD, this, dS]
theorem pop_last (l : List D) (x : D) : popL (.lst (l ++ [x])) [] = some (x, .lst l) := by
  simp [popL]
theorem goodP_some {W : Web} {n x : Str} {path : List Str} (h : some x ≠ some n) : goodP W n path (some x) = (decide (x ∈ kW W) && (!decide (x ∈ path) && decide (ltS n x))) := by
  unfold goodP
  rw [decide_eq_false h]; rfl
theorem goodP_iff {W : Web} {n x : Str} {path : List Str} : goodP W n path (some x) = true ↔ x ≠ n ∧ x ∈ kW W ∧ x ∉ path ∧ ltS n x := by
  by_cases h : some x = some n
  · unfold goodP
    rw [decide_eq_true h]
    have : x = n := Option.some.inj h
    simp [this]
  · rw [goodP_some h]
    have : x ≠ n := fun e => h (by rw [e])
    simp [this]
theorem todo_len {m : Nat} : ∀ {line : List (List Str)}, (∀ e ∈ line, e.length ≤ m) → line.length ≤ todo m line
  | [], _ => by simp
  | e :: line, h => by
    have h1 := h e List.mem_cons_self
    have h2 := todo_len (line := line) fun q hq => h q (List.mem_cons_of_mem _ hq)
    have e1 : todo m (e :: line) = (2 ^ (m + 1 - e.length) - 1) + todo m line := by simp [todo]
    have : 2 ^ 1 ≤ 2 ^ (m + 1 - e.length) := Nat.pow_le_pow_right (by omega) (by omega)
    rw [e1, List.length_cons]
    omega
theorem law_rings_ok {W : Web} {m : Nat} (hW : WebOk W m) (hm : m ≤ 6) (r : R) : ∃ ps : List (List Str), f__law_rings T [dW W] r = some (.tmp (.lst (ps.map dR)), r) ∧ (∀ p, p ∈ ps ↔ RingW W p) ∧ BestR W ps.head? ∧ ps.length ≤ 1000 := by
  suffices h : Ev (f__law_rings T [dW W] r) (fun v r' => (∃ ps : List (List Str), v = .tmp (.lst (ps.map dR)) ∧ (∀ p, p ∈ ps ↔ RingW W p) ∧ BestR W ps.head? ∧ ps.length ≤ 1000) ∧ r' = r) by
    obtain ⟨v, r', e, ⟨o, rfl, h⟩, rfl⟩ := h
    exact ⟨o, e, h⟩
  have hlen := hW.len
  have hkl : (kW W).length = W.length := by unfold kW; rw [List.length_map]
  unfold f__law_rings m__law_rings
  generalize hWh : mWhile _ _ = Wh
  generalize hL0 : mLc [6] _ _ _ _ = L0
  generalize hL9 : mLc [5, 3] _ _ _ _ = L9
  have eL0 : L0 ⟨[some ⟨dW W, false⟩, none, none, none, none, none, none], r⟩ = some (.tmp (.lst ((kW W).map fun x => dR [x])), ⟨[some ⟨dW W, false⟩, none, none, none, none, none, none], r⟩) := by
    rw [← hL0]
    refine mLc_all D.str (fun x => dR [x]) (kW W) ?_ (by rfl) (fun x hx => ?_) (by unfold sizeLine; omega)
    · simp [fnM, fnR, ent, mSeq, mSet, mV, mC, mOp1, mOp2, mChain, mAnd, mOr, mNot, mIf, mArgs, escAll, esc, soft, pk, hard, put, puts, mHards, mPar, mTup, mLst, mDct0, mCall, mRest, mRt, mRtN, mNx, mEx, mIte, mMut, mPut, mIt, bindT, bindTs, isAtom, isLst, isDK, plainAt, wipeE, backE, mFor, mLc, mDc, mWhile, mBk, mCt, mNo, mSl, mNoP, mPt, mJoin, mRng1, mRng2, mZip, mCallK, pickL, mMeth, mProp, mMake, mFld, fnI, fnIR, mDisp, mPairs, o2I, gtI, geI, leI, mStar, mStarT, mStarL, mAugI, mIndex, items_dT]; rfl
    · simp [fnM, fnR, ent, mSeq, mSet, mV, mC, mOp1, mOp2, mChain, mAnd, mOr, mNot, mIf, mArgs, escAll, esc, soft, pk, hard, put, puts, mHards, mPar, mTup, mLst, mDct0, mCall, mRest, mRt, mRtN, mNx, mEx, mIte, mMut, mPut, mIt, bindT, bindTs, isAtom, isLst, isDK, plainAt, wipeE, backE, mFor, mLc, mDc, mWhile, mBk, mCt, mNo, mSl, mNoP, mPt, mJoin, mRng1, mRng2, mZip, mCallK, pickL, mMeth, mProp, mMake, mFld, fnI, fnIR, mDisp, mPairs, o2I, gtI, geI, leI, mStar, mStarT, mStarL, mAugI, mIndex, dR, dS]
  simp [fnM, fnR, ent, mSeq, mSet, mV, mC, mOp1, mOp2, mChain, mAnd, mOr, mNot, mIf, mArgs, escAll, esc, soft, pk, hard, put, puts, mHards, mPar, mTup, mLst, mDct0, mCall, mRest, mRt, mRtN, mNx, mEx, mIte, mMut, mPut, mIt, bindT, bindTs, isAtom, isLst, isDK, plainAt, wipeE, backE, mFor, mLc, mDc, mWhile, mBk, mCt, mNo, mSl, mNoP, mPt, mJoin, mRng1, mRng2, mZip, mCallK, pickL, mMeth, mProp, mMake, mFld, fnI, fnIR, mDisp, mPairs, o2I, gtI, geI, leI, mStar, mStarT, mStarL, mAugI, mIndex, List.replicate, eL0]
  subst hWh
  let St : List (List Str) → List (List Str) → Option D → Option Cell → S R := fun found line a3 a4 => ⟨[some ⟨dW W, false⟩, some ⟨.lst (found.map dR), true⟩, some ⟨.lst (line.map dR), true⟩, c0 a3, a4, none, none], r⟩
  let I : Nat → S R → Prop := fun k s => ∃ (found line : List (List Str)) (a3 : Option D) (a4 : Option Cell), s = St found line a3 a4 ∧ k = todo W.length line ∧ Dfs (nx W) ltS (kW W) found line ∧ found.length + 2 * k ≤ 1000 ∧ line.length ≤ k
  let Q : Fl → S R → Prop := fun fl s => fl = .nx ∧ ∃ (found : List (List Str)) (a3 : Option D) (a4 : Option Cell), s = St found [] a3 a4 ∧ (∀ p, p ∈ found ↔ RingW W p) ∧ found.length ≤ 1000
  have hstart : todo W.length ((kW W).map fun x => [x]) ≤ 378 := by
    have : ∀ l : List Str, todo W.length (l.map fun x => [x]) = l.length * (2 ^ W.length - 1) := by
      intro l
      induction l with
      | nil => simp [todo]
      | cons x l ih =>
        have : todo W.length ((x :: l).map fun x => [x]) = (2 ^ (W.length + 1 - 1) - 1) + todo W.length (l.map fun x => [x]) := by simp [todo]
        rw [this, ih, List.length_cons, Nat.add_mul, Nat.one_mul, Nat.add_sub_cancel]; omega
    rw [this, hkl]
    have h1 : 2 ^ W.length ≤ 2 ^ 6 := Nat.pow_le_pow_right (by omega) (by omega)
    have h2 : W.length * (2 ^ W.length - 1) ≤ 6 * (2 ^ 6 - 1) := Nat.mul_le_mul (by omega) (by omega)
    omega
  have hst0 : I (todo W.length ((kW W).map fun x => [x])) ⟨[some ⟨dW W, false⟩, some ⟨.lst [], true⟩, some ⟨.lst ((kW W).map fun x => dR [x]), true⟩, none, none, none, none], r⟩ := by
    refine ⟨[], (kW W).map fun x => [x], none, none, by simp [St, c0, Function.comp_def], rfl, dfs_start, by simp; omega, ?_⟩
    rw [List.length_map]
    have : ∀ l : List Str, 0 < W.length → l.length ≤ todo W.length (l.map fun x => [x]) := by
      intro l hp
      induction l with
      | nil => simp
      | cons x l ih =>
        have e : todo W.length ((x :: l).map fun x => [x]) = (2 ^ (W.length + 1 - 1) - 1) + todo W.length (l.map fun x => [x]) := by simp [todo]
        rw [e, List.length_cons, Nat.add_sub_cancel]
        have : 2 ^ 1 ≤ 2 ^ W.length := Nat.pow_le_pow_right (by omega) hp
        omega
    by_cases hp : 0 < W.length
    · exact this _ hp
    · rw [hkl]; omega
  refine Ev.mono (Q := Q) (wh_ev I Q (fun k s hs => ?_) wfuel _ _ (lt_wfuel (Nat.lt_of_le_of_lt hstart (by omega))) hst0) ?_
  · obtain ⟨found, line, a3, a4, rfl, rfl, Df, hb, hll⟩ := hs
    by_cases hne : line = []
    · subst hne
      have hf := dfs_end Df
      have hQ : Q .nx (St found [] a3 a4) := ⟨rfl, found, a3, a4, rfl, hf, by omega⟩
      simp [fnM, fnR, ent, mSeq, mSet, mV, mC, mOp1, mOp2, mChain, mAnd, mOr, mNot, mIf, mArgs, escAll, esc, soft, pk, hard, put, puts, mHards, mPar, mTup, mLst, mDct0, mCall, mRest, mRt, mRtN, mNx, mEx, mIte, mMut, mPut, mIt, bindT, bindTs, isAtom, isLst, isDK, plainAt, wipeE, backE, mFor, mLc, mDc, mWhile, mBk, mCt, mNo, mSl, mNoP, mPt, mJoin, mRng1, mRng2, mZip, mCallK, pickL, mMeth, mProp, mMake, mFld, fnI, fnIR, mDisp, mPairs, o2I, gtI, geI, leI, mStar, mStarT, mStarL, mAugI, mIndex, St, ne_lst_nil] at hQ ⊢
      exact hQ
    · obtain ⟨line, path, rfl⟩ := snoc_of hne
      obtain ⟨rp, hpV⟩ := Df.left path (by simp)
      obtain ⟨l, z, rfl⟩ := snoc_of rp.ne
      obtain ⟨n, m', em, _⟩ := rp.least
      have hz : z ∈ kW W := hpV z (by simp)
      have hpl : (l ++ [z]).length ≤ W.length := by
        have := nodup_len rp.nd hpV
        rw [hkl] at this; exact this
      have hh : idxD (dR (l ++ [z])) (.int 0) = some (.sh (.str n)) := by rw [em]; exact head_tup n m'
      have htw := hW.two z
      generalize hFo : mFor _ _ _ = Fo
      have hne2 : (line ++ [l ++ [z]]).map dR ≠ [] := by simp
      have hpop : popL (.lst ((line ++ [l ++ [z]]).map dR)) [] = some (dR (l ++ [z]), .lst (line.map dR)) := by
        rw [List.map_append]; exact pop_last _ _
      have hne3 : neD (.lst ((line ++ [l ++ [z]]).map dR)) (.lst []) = some (.sh (.bl true)) := by rw [ne_lst_nil, decide_eq_false hne2]; rfl
      generalize hLL : (line ++ [l ++ [z]]).map dR = LL at hpop hne3
      have hSt : St found (line ++ [l ++ [z]]) a3 a4 = ⟨[some ⟨dW W, false⟩, some ⟨.lst (found.map dR), true⟩, some ⟨.lst LL, true⟩, c0 a3, a4, none, none], r⟩ := by simp only [St, hLL]
      rw [hSt]
      simp [fnM, fnR, ent, mSeq, mSet, mV, mC, mOp1, mOp2, mChain, mAnd, mOr, mNot, mIf, mArgs, escAll, esc, soft, pk, hard, put, puts, mHards, mPar, mTup, mLst, mDct0, mCall, mRest, mRt, mRtN, mNx, mEx, mIte, mMut, mPut, mIt, bindT, bindTs, isAtom, isLst, isDK, plainAt, wipeE, backE, mFor, mLc, mDc, mWhile, mBk, mCt, mNo, mSl, mNoP, mPt, mJoin, mRng1, mRng2, mZip, mCallK, pickL, mMeth, mProp, mMake, mFld, fnI, fnIR, mDisp, mPairs, o2I, gtI, geI, leI, mStar, mStarT, mStarL, mAugI, mIndex, hpop, hne3]
      subst hFo
      let gf : List (Option Str) → List (List Str) := fun pre => found ++ (pre.filter fun p => decide (p = some n)).map fun _ => l ++ [z]
      let gl : List (Option Str) → List (List Str) := fun pre => line ++ (pre.filter (goodP W n (l ++ [z]))).map fun p => l ++ [z] ++ [unO p]
      let P2 : List (Option Str) → S R → Prop := fun pre s => ∃ (a4 : Option Cell), s = ⟨[some ⟨dW W, false⟩, some ⟨.lst ((gf pre).map dR), true⟩, some ⟨.lst ((gl pre).map dR), true⟩, some ⟨dR (l ++ [z]), false⟩, a4, none, none], r⟩
      have hlt : line.length + 1 ≤ todo W.length (line ++ [l ++ [z]]) := by simpa using hll
      refine (mFor_ev (ds := (plW W z).map dO) (s1 := ⟨[some ⟨dW W, false⟩, some ⟨.lst (found.map dR), true⟩, some ⟨.lst (line.map dR), true⟩, some ⟨dR (l ++ [z]), false⟩, a4, none, none], r⟩) (by simp [fnM, fnR, ent, mSeq, mSet, mV, mC, mOp1, mOp2, mChain, mAnd, mOr, mNot, mIf, mArgs, escAll, esc, soft, pk, hard, put, puts, mHards, mPar, mTup, mLst, mDct0, mCall, mRest, mRt, mRtN, mNx, mEx, mIte, mMut, mPut, mIt, bindT, bindTs, isAtom, isLst, isDK, plainAt, wipeE, backE, mFor, mLc, mDc, mWhile, mBk, mCt, mNo, mSl, mNoP, mPt, mJoin, mRng1, mRng2, mZip, mCallK, pickL, mMeth, mProp, mMake, mFld, fnI, fnIR, mDisp, mPairs, o2I, gtI, geI, leI, mStar, mStarT, mStarL, mAugI, mIndex, neg_one, last_tup, idx_dT dPl (look_W hz), dPl, itemsOf, lO]) (each_ev dO (plW W z) P2 (fun pre p post s e1 hs => ?_) _ ⟨a4, by simp [gf, gl]⟩)).mono ?_
      · obtain ⟨a4, rfl⟩ := hs
        have hpre : pre.length ≤ 1 := by
          have := congrArg List.length e1
          simp at this; omega
        have hf1 : (gf pre).length < sizeLine := by
          have : (pre.filter fun p => decide (p = some n)).length ≤ pre.length := List.length_filter_le _ _
          simp only [gf, List.length_append, List.length_map]
          unfold sizeLine; omega
        have hl1 : (gl pre).length < sizeLine := by
          have : (pre.filter (goodP W n (l ++ [z]))).length ≤ pre.length := List.length_filter_le _ _
          simp only [gl, List.length_append, List.length_map]
          unfold sizeLine; omega
        by_cases h1 : p = some n
        · subst h1
          have hg : goodP W n (l ++ [z]) (some n) = false := by simp [goodP]
          have hP : P2 (pre ++ [some n]) ⟨[some ⟨dW W, false⟩, some ⟨.lst ((gf pre).map dR ++ [dR (l ++ [z])]), true⟩, some ⟨.lst ((gl pre).map dR), true⟩, some ⟨dR (l ++ [z]), false⟩, some ⟨.str n, false⟩, none, none], r⟩ := by
            refine ⟨some ⟨.str n, false⟩, ?_⟩
            simp [gf, gl, hg]
          generalize P2 (pre ++ [some n]) = PP at hP
          generalize gf pre = Y at hf1 hP
          generalize gl pre = Z at hl1 hP
          have he : eqD (.str n) (.str n) = some (.sh (.bl true)) := by rw [eq_str]; simp
          simp [fnM, fnR, ent, mSeq, mSet, mV, mC, mOp1, mOp2, mChain, mAnd, mOr, mNot, mIf, mArgs, escAll, esc, soft, pk, hard, put, puts, mHards, mPar, mTup, mLst, mDct0, mCall, mRest, mRt, mRtN, mNx, mEx, mIte, mMut, mPut, mIt, bindT, bindTs, isAtom, isLst, isDK, plainAt, wipeE, backE, mFor, mLc, mDc, mWhile, mBk, mCt, mNo, mSl, mNoP, mPt, mJoin, mRng1, mRng2, mZip, mCallK, pickL, mMeth, mProp, mMake, mFld, fnI, fnIR, mDisp, mPairs, o2I, gtI, geI, leI, mStar, mStarT, mStarL, mAugI, mIndex, dO, hh, he, appL, hf1, hP]
        · have he : eqD (dO p) (.str n) = some (.sh (.bl false)) := by
            have := eq_dO p (some n)
            rw [decide_eq_false h1] at this; exact this
          have hin := inD_W W p
          have hP0 : goodP W n (l ++ [z]) p = false → P2 (pre ++ [p]) ⟨[some ⟨dW W, false⟩, some ⟨.lst ((gf pre).map dR), true⟩, some ⟨.lst ((gl pre).map dR), true⟩, some ⟨dR (l ++ [z]), false⟩, some ⟨dO p, false⟩, none, none], r⟩ := by
            intro hg
            refine ⟨some ⟨dO p, false⟩, ?_⟩
            simp [gf, gl, hg, h1]
          have hP1 : goodP W n (l ++ [z]) p = true → P2 (pre ++ [p]) ⟨[some ⟨dW W, false⟩, some ⟨.lst ((gf pre).map dR), true⟩, some ⟨.lst ((gl pre).map dR ++ [dR (l ++ [z] ++ [unO p])]), true⟩, some ⟨dR (l ++ [z]), false⟩, some ⟨dO p, false⟩, none, none], r⟩ := by
            intro hg
            refine ⟨some ⟨dO p, false⟩, ?_⟩
            simp [gf, gl, hg, h1]
          generalize P2 (pre ++ [p]) = PP at hP0 hP1
          generalize gf pre = Y at hf1 hP0 hP1
          generalize gl pre = Z at hl1 hP0 hP1
          cases p with
          | none =>
            have hP0 := hP0 rfl
            have hin : inB .non (dW W) = some false := hin
            have he : eqD .non (.str n) = some (.sh (.bl false)) := he
            simp only [dO] at hP0
            simp [fnM, fnR, ent, mSeq, mSet, mV, mC, mOp1, mOp2, mChain, mAnd, mOr, mNot, mIf, mArgs, escAll, esc, soft, pk, hard, put, puts, mHards, mPar, mTup, mLst, mDct0, mCall, mRest, mRt, mRtN, mNx, mEx, mIte, mMut, mPut, mIt, bindT, bindTs, isAtom, isLst, isDK, plainAt, wipeE, backE, mFor, mLc, mDc, mWhile, mBk, mCt, mNo, mSl, mNoP, mPt, mJoin, mRng1, mRng2, mZip, mCallK, pickL, mMeth, mProp, mMake, mFld, fnI, fnIR, mDisp, mPairs, o2I, gtI, geI, leI, mStar, mStarT, mStarL, mAugI, mIndex, dO, hh, he, inD, hin, hP0]
          | some x =>
            have hin : inB (.str x) (dW W) = some (decide (x ∈ kW W)) := hin
            have he : eqD (.str x) (.str n) = some (.sh (.bl false)) := he
            have hcat := cat_dR (l ++ [z]) x (by omega)
            have hgd := goodP_some (W := W) (path := l ++ [z]) h1
            rw [hgd] at hP0 hP1
            have hinr := in_dR x (l ++ [z])
            generalize hpath : l ++ [z] = path at *
            simp only [dO, unO, Option.getD_some] at hP0 hP1
            by_cases a1 : x ∈ kW W
            · by_cases a2 : x ∈ path
              · have hP0 := hP0 (by simp [a1, a2])
                simp [fnM, fnR, ent, mSeq, mSet, mV, mC, mOp1, mOp2, mChain, mAnd, mOr, mNot, mIf, mArgs, escAll, esc, soft, pk, hard, put, puts, mHards, mPar, mTup, mLst, mDct0, mCall, mRest, mRt, mRtN, mNx, mEx, mIte, mMut, mPut, mIt, bindT, bindTs, isAtom, isLst, isDK, plainAt, wipeE, backE, mFor, mLc, mDc, mWhile, mBk, mCt, mNo, mSl, mNoP, mPt, mJoin, mRng1, mRng2, mZip, mCallK, pickL, mMeth, mProp, mMake, mFld, fnI, fnIR, mDisp, mPairs, o2I, gtI, geI, leI, mStar, mStarT, mStarL, mAugI, mIndex, dO, hh, he, inD, hin, ninD, hinr, a1, a2, hP0]
              · by_cases a3 : ltS n x
                · have hP1 := hP1 (by simp [a1, a2, a3])
                  simp [fnM, fnR, ent, mSeq, mSet, mV, mC, mOp1, mOp2, mChain, mAnd, mOr, mNot, mIf, mArgs, escAll, esc, soft, pk, hard, put, puts, mHards, mPar, mTup, mLst, mDct0, mCall, mRest, mRt, mRtN, mNx, mEx, mIte, mMut, mPut, mIt, bindT, bindTs, isAtom, isLst, isDK, plainAt, wipeE, backE, mFor, mLc, mDc, mWhile, mBk, mCt, mNo, mSl, mNoP, mPt, mJoin, mRng1, mRng2, mZip, mCallK, pickL, mMeth, mProp, mMake, mFld, fnI, fnIR, mDisp, mPairs, o2I, gtI, geI, leI, mStar, mStarT, mStarL, mAugI, mIndex, dO, hh, he, inD, hin, ninD, hinr, gt_S, a1, a2, a3, hcat, appL, hl1, hP1]
                · have hP0 := hP0 (by simp [a1, a2, a3])
                  simp [fnM, fnR, ent, mSeq, mSet, mV, mC, mOp1, mOp2, mChain, mAnd, mOr, mNot, mIf, mArgs, escAll, esc, soft, pk, hard, put, puts, mHards, mPar, mTup, mLst, mDct0, mCall, mRest, mRt, mRtN, mNx, mEx, mIte, mMut, mPut, mIt, bindT, bindTs, isAtom, isLst, isDK, plainAt, wipeE, backE, mFor, mLc, mDc, mWhile, mBk, mCt, mNo, mSl, mNoP, mPt, mJoin, mRng1, mRng2, mZip, mCallK, pickL, mMeth, mProp, mMake, mFld, fnI, fnIR, mDisp, mPairs, o2I, gtI, geI, leI, mStar, mStarT, mStarL, mAugI, mIndex, dO, hh, he, inD, hin, ninD, hinr, gt_S, a1, a2, a3, hP0]
            · have hP0 := hP0 (by simp [a1])
              simp [fnM, fnR, ent, mSeq, mSet, mV, mC, mOp1, mOp2, mChain, mAnd, mOr, mNot, mIf, mArgs, escAll, esc, soft, pk, hard, put, puts, mHards, mPar, mTup, mLst, mDct0, mCall, mRest, mRt, mRtN, mNx, mEx, mIte, mMut, mPut, mIt, bindT, bindTs, isAtom, isLst, isDK, plainAt, wipeE, backE, mFor, mLc, mDc, mWhile, mBk, mCt, mNo, mSl, mNoP, mPt, mJoin, mRng1, mRng2, mZip, mCallK, pickL, mMeth, mProp, mMake, mFld, fnI, fnIR, mDisp, mPairs, o2I, gtI, geI, leI, mStar, mStarT, mStarL, mAugI, mIndex, dO, hh, he, inD, hin, a1, hP0]
      · rintro fl s' ⟨rfl, a4, rfl⟩
        have hlen2 : ((plW W z).filter (goodP W n (l ++ [z]))).length ≤ 2 := Nat.le_trans (List.length_filter_le _ _) htw
        have hext : ((plW W z).filter fun p => decide (p = some n)).length ≤ 1 := by
          have hd := hW.dif z
          generalize plW W z = pl at hd
          clear htw hlen2
          induction pl with
          | nil => simp
          | cons a pl ih =>
            obtain ⟨d1, d2⟩ := List.nodup_cons.mp hd
            rw [List.filter_cons]
            split
            · rename_i e
              have e := of_decide_eq_true e
              have : pl.filter (fun p => decide (p = some n)) = [] := List.filter_eq_nil_iff.mpr fun b hb c => d1 (by rw [e, ← of_decide_eq_true c]; exact hb)
              rw [this]; simp
            · exact ih d2
        have hstep := todo_step (m := W.length) (line := line) (ext := ((plW W z).filter (goodP W n (l ++ [z]))).map fun p => l ++ [z] ++ [unO p]) (q := l ++ [z]) hpl (by rw [List.length_map]; exact hlen2) (fun e he => by
          obtain ⟨p, _, rfl⟩ := List.mem_map.mp he
          simp)
        have Df' : Dfs (nx W) ltS (kW W) (gf (plW W z)) (gl (plW W z)) := by
          refine dfs_step nx_in Df (by rw [em]; rfl) (fun p => ?_) (fun q => ?_)
          · simp only [gf, List.mem_append, List.mem_map, List.mem_filter]
            constructor
            · rintro (h | ⟨x, ⟨hx, hx2⟩, rfl⟩)
              · exact .inl h
              · rw [of_decide_eq_true hx2] at hx
                exact .inr ⟨rfl, nx_mem.mpr ⟨hx, hpV n (by rw [em]; exact List.mem_cons_self)⟩⟩
            · rintro (h | ⟨rfl, h⟩)
              · exact .inl h
              · exact .inr ⟨some n, ⟨(nx_mem.mp h).1, decide_eq_true rfl⟩, rfl⟩
          · simp only [List.mem_map, List.mem_filter]
            constructor
            · rintro ⟨p, ⟨hp, hg⟩, rfl⟩
              cases p with
              | none => simp [goodP, inW] at hg
              | some x =>
                have hg := goodP_iff.mp hg
                exact ⟨x, nx_mem.mpr ⟨hp, hg.2.1⟩, hg.2.2.2, hg.2.2.1, rfl⟩
            · rintro ⟨x, hx, h3, h4, rfl⟩
              obtain ⟨x1, x2⟩ := nx_mem.mp hx
              refine ⟨some x, ⟨x1, ?_⟩, rfl⟩
              have : x ≠ n := fun e => h4 (by rw [e, em]; exact List.mem_cons_self)
              exact goodP_iff.mpr ⟨this, x2, h4, h3⟩
        refine ⟨todo W.length (gl (plW W z)), hstep, gf (plW W z), gl (plW W z), some (dR (l ++ [z])), a4, rfl, rfl, Df', ?_, ?_⟩
        · have : (gf (plW W z)).length ≤ found.length + 1 := by simp only [gf, List.length_append, List.length_map]; omega
          have h2 : todo W.length (gl (plW W z)) < todo W.length (line ++ [l ++ [z]]) := hstep
          omega
        · refine todo_len fun e he => ?_
          obtain ⟨re, ve⟩ := Df'.left e he
          have := nodup_len re.nd ve
          rw [hkl] at this; exact this
  · rintro fl s' ⟨rfl, found, a3, a4, rfl, hf, hl⟩
    have hs := sort_L found
    have hb := sorted_best hf
    have hm : ∀ p, p ∈ found.mergeSort le2 ↔ RingW W p := fun p => by rw [(List.mergeSort_perm found le2).mem_iff]; exact hf p
    have hsl : (found.mergeSort le2).length = found.length := (List.mergeSort_perm found le2).length_eq
    generalize found.mergeSort le2 = ms at hs hb hm hsl
    generalize hL8 : mLc [3] _ _ _ _ = L8 at hL9
    have eL8 : L8 (St found [] a3 a4) = some (.tmp (.lst (found.map dL)), ⟨[some ⟨dW W, false⟩, some ⟨.lst (found.map dR), false⟩, some ⟨.lst [], true⟩, c0 a3, a4, none, none], r⟩) := by
      rw [← hL8]
      refine mLc_all dR dL found ?_ (by cases a3 <;> rfl) (fun p hp => ?_) (by unfold sizeLine; omega)
      · simp [fnM, fnR, ent, mSeq, mSet, mV, mC, mOp1, mOp2, mChain, mAnd, mOr, mNot, mIf, mArgs, escAll, esc, soft, pk, hard, put, puts, mHards, mPar, mTup, mLst, mDct0, mCall, mRest, mRt, mRtN, mNx, mEx, mIte, mMut, mPut, mIt, bindT, bindTs, isAtom, isLst, isDK, plainAt, wipeE, backE, mFor, mLc, mDc, mWhile, mBk, mCt, mNo, mSl, mNoP, mPt, mJoin, mRng1, mRng2, mZip, mCallK, pickL, mMeth, mProp, mMake, mFld, fnI, fnIR, mDisp, mPairs, o2I, gtI, geI, leI, mStar, mStarT, mStarL, mAugI, mIndex, St, itemsOf]
      · have := len_tup (dS p)
        rw [dS_length] at this
        cases a3 <;> simp [fnM, fnR, ent, mSeq, mSet, mV, mC, mOp1, mOp2, mChain, mAnd, mOr, mNot, mIf, mArgs, escAll, esc, soft, pk, hard, put, puts, mHards, mPar, mTup, mLst, mDct0, mCall, mRest, mRt, mRtN, mNx, mEx, mIte, mMut, mPut, mIt, bindT, bindTs, isAtom, isLst, isDK, plainAt, wipeE, backE, mFor, mLc, mDc, mWhile, mBk, mCt, mNo, mSl, mNoP, mPt, mJoin, mRng1, mRng2, mZip, mCallK, pickL, mMeth, mProp, mMake, mFld, fnI, fnIR, mDisp, mPairs, o2I, gtI, geI, leI, mStar, mStarT, mStarL, mAugI, mIndex, dR, this, dL, c0]
    have eL9 : L9 (St found [] a3 a4) = some (.tmp (.lst (ms.map dR)), ⟨[some ⟨dW W, false⟩, some ⟨.lst (found.map dR), false⟩, some ⟨.lst [], true⟩, c0 a3, a4, none, none], r⟩) := by
      rw [← hL9]
      refine mLc_all dL dR ms ?_ (by cases a3 <;> rfl) (fun p hp => ?_) (by unfold sizeLine; omega)
      · simp [fnM, fnR, ent, mSeq, mSet, mV, mC, mOp1, mOp2, mChain, mAnd, mOr, mNot, mIf, mArgs, escAll, esc, soft, pk, hard, put, puts, mHards, mPar, mTup, mLst, mDct0, mCall, mRest, mRt, mRtN, mNx, mEx, mIte, mMut, mPut, mIt, bindT, bindTs, isAtom, isLst, isDK, plainAt, wipeE, backE, mFor, mLc, mDc, mWhile, mBk, mCt, mNo, mSl, mNoP, mPt, mJoin, mRng1, mRng2, mZip, mCallK, pickL, mMeth, mProp, mMake, mFld, fnI, fnIR, mDisp, mPairs, o2I, gtI, geI, leI, mStar, mStarT, mStarL, mAugI, mIndex, eL8, hs, itemsOf]
      · cases a3 <;> simp [fnM, fnR, ent, mSeq, mSet, mV, mC, mOp1, mOp2, mChain, mAnd, mOr, mNot, mIf, mArgs, escAll, esc, soft, pk, hard, put, puts, mHards, mPar, mTup, mLst, mDct0, mCall, mRest, mRt, mRtN, mNx, mEx, mIte, mMut, mPut, mIt, bindT, bindTs, isAtom, isLst, isDK, plainAt, wipeE, backE, mFor, mLc, mDc, mWhile, mBk, mCt, mNo, mSl, mNoP, mPt, mJoin, mRng1, mRng2, mZip, mCallK, pickL, mMeth, mProp, mMake, mFld, fnI, fnIR, mDisp, mPairs, o2I, gtI, geI, leI, mStar, mStarT, mStarL, mAugI, mIndex, dL, c0]
    simp [fnM, fnR, ent, mSeq, mSet, mV, mC, mOp1, mOp2, mChain, mAnd, mOr, mNot, mIf, mArgs, escAll, esc, soft, pk, hard, put, puts, mHards, mPar, mTup, mLst, mDct0, mCall, mRest, mRt, mRtN, mNx, mEx, mIte, mMut, mPut, mIt, bindT, bindTs, isAtom, isLst, isDK, plainAt, wipeE, backE, mFor, mLc, mDc, mWhile, mBk, mCt, mNo, mSl, mNoP, mPt, mJoin, mRng1, mRng2, mZip, mCallK, pickL, mMeth, mProp, mMake, mFld, fnI, fnIR, mDisp, mPairs, o2I, gtI, geI, leI, mStar, mStarT, mStarL, mAugI, mIndex, eL9]
    exact ⟨ms, rfl, hm, hb, by omega⟩
end
end RW
namespace RW
open PySem L2 Gr
/-! ### what is told of a round -/
section
variable {R : Type} {T : Fm R}
theorem need_round_ok {M : Mod} (hM : ModOk M) {ready part : List Str} (hr : RoundOk M ready part) (r : R) : f_need_round T [netD M, .tup (dS ready), .tup (dS part)] r = some (.sh .non, r) := by
  have d2 := hM.d2
  have hl := hr.l
  have q1 := need_net_ok (T := T) M r
  have q2 := need_done_ok (T := T) hM hr.r1 hr.r2 hr.r3 r
  have q3 := is_lot_ok (T := T) hM hr.p1 hr.p2 hr.p3 r
  unfold f_need_round m_need_round
  generalize hL : mLc _ _ _ _ _ = L
  have eL : L ⟨[some ⟨netD M, false⟩, some ⟨.tup (dS ready), false⟩, some ⟨.tup (dS part), false⟩, none], r⟩ = some (.tmp (.lst (part.map fun _ => .bl false)), ⟨[some ⟨netD M, false⟩, some ⟨.tup (dS ready), false⟩, some ⟨.tup (dS part), false⟩, none], r⟩) := by
    rw [← hL]
    refine mLc_all D.str (fun _ => .bl false) part ?_ (by rfl) (fun y hy => ?_) (by unfold sizeLine; omega)
    · simp [fnM, fnR, ent, mSeq, mSet, mV, mC, mOp1, mOp2, mChain, mAnd, mOr, mNot, mIf, mArgs, escAll, esc, soft, pk, hard, put, puts, mHards, mPar, mTup, mLst, mDct0, mCall, mRest, mRt, mRtN, mNx, mEx, mIte, mMut, mPut, mIt, bindT, bindTs, isAtom, isLst, isDK, plainAt, wipeE, backE, mFor, mLc, mDc, mWhile, mBk, mCt, mNo, mSl, mNoP, mPt, mJoin, mRng1, mRng2, mZip, mCallK, pickL, mMeth, mProp, mMake, mFld, fnI, fnIR, mDisp, mPairs, o2I, gtI, geI, leI, mStar, mStarT, mStarL, mAugI, mIndex, itemsOf, dS]
    · simp [fnM, fnR, ent, mSeq, mSet, mV, mC, mOp1, mOp2, mChain, mAnd, mOr, mNot, mIf, mArgs, escAll, esc, soft, pk, hard, put, puts, mHards, mPar, mTup, mLst, mDct0, mCall, mRest, mRt, mRtN, mNx, mEx, mIte, mMut, mPut, mIt, bindT, bindTs, isAtom, isLst, isDK, plainAt, wipeE, backE, mFor, mLc, mDc, mWhile, mBk, mCt, mNo, mSl, mNoP, mPt, mJoin, mRng1, mRng2, mZip, mCallK, pickL, mMeth, mProp, mMake, mFld, fnI, fnIR, mDisp, mPairs, o2I, gtI, geI, leI, mStar, mStarT, mStarL, mAugI, mIndex, inD, in_tup, hr.d y hy]
  have hany : anyD (.lst (part.map fun _ => .bl false)) = some (.sh (.bl false)) := by
    have := any_bl (part.map fun _ => false)
    rw [List.map_map] at this
    have e : (part.map fun _ => false).any id = false := by simp
    rw [e] at this
    exact this
  simp [fnM, fnR, ent, mSeq, mSet, mV, mC, mOp1, mOp2, mChain, mAnd, mOr, mNot, mIf, mArgs, escAll, esc, soft, pk, hard, put, puts, mHards, mPar, mTup, mLst, mDct0, mCall, mRest, mRt, mRtN, mNx, mEx, mIte, mMut, mPut, mIt, bindT, bindTs, isAtom, isLst, isDK, plainAt, wipeE, backE, mFor, mLc, mDc, mWhile, mBk, mCt, mNo, mSl, mNoP, mPt, mJoin, mRng1, mRng2, mZip, mCallK, pickL, mMeth, mProp, mMake, mFld, fnI, fnIR, mDisp, mPairs, o2I, gtI, geI, leI, mStar, mStarT, mStarL, mAugI, mIndex, q1, q2, q3, eL, hany]
variable {M : Mod} (hM : ModOk M) {ready part : List Str} (hr : RoundOk M ready part) {e : Str} {p : Tab × Tab} (hp : (e, p) ∈ M.rows)
include hM hr hp
theorem ways_ok (r : R) : f_ways T [netD M, .tup (dS ready), .tup (dS part), .str e] r = some (.tmp (dW (webOf M.dots p ready part)), r) := by
  have q1 := need_round_ok (T := T) hM hr r
  have q4 := need_goal_ok (T := T) (M := M) (x := e) (List.mem_map.mpr ⟨_, hp, rfl⟩) r
  have q6 := mixture_ok (T := T) hM hp ready part r
  unfold f_ways m_ways
  simp [fnM, fnR, ent, mSeq, mSet, mV, mC, mOp1, mOp2, mChain, mAnd, mOr, mNot, mIf, mArgs, escAll, esc, soft, pk, hard, put, puts, mHards, mPar, mTup, mLst, mDct0, mCall, mRest, mRt, mRtN, mNx, mEx, mIte, mMut, mPut, mIt, bindT, bindTs, isAtom, isLst, isDK, plainAt, wipeE, backE, mFor, mLc, mDc, mWhile, mBk, mCt, mNo, mSl, mNoP, mPt, mJoin, mRng1, mRng2, mZip, mCallK, pickL, mMeth, mProp, mMake, mFld, fnI, fnIR, mDisp, mPairs, o2I, gtI, geI, leI, mStar, mStarT, mStarL, mAugI, mIndex, List.replicate, q1, q4, q6]
theorem ring_ok (r : R) : ∃ o, f_ring T [netD M, .tup (dS ready), .tup (dS part), .str e] r = some (.sh (dOR o), r) ∧ BestR (webOf M.dots p ready part) o := by
  have q1 := need_round_ok (T := T) hM hr r
  have q4 := need_goal_ok (T := T) (M := M) (x := e) (List.mem_map.mpr ⟨_, hp, rfl⟩) r
  have q6 := mixture_ok (T := T) hM hp ready part r
  obtain ⟨o, q7, hb⟩ := ring_in_ok (T := T) (webOk hM hp ready part) (by have := hM.d2; omega) r
  refine ⟨o, ?_, hb⟩
  unfold f_ring m_ring
  cases o <;> (simp only [dOR, dR] at q7 ⊢; simp [fnM, fnR, ent, mSeq, mSet, mV, mC, mOp1, mOp2, mChain, mAnd, mOr, mNot, mIf, mArgs, escAll, esc, soft, pk, hard, put, puts, mHards, mPar, mTup, mLst, mDct0, mCall, mRest, mRt, mRtN, mNx, mEx, mIte, mMut, mPut, mIt, bindT, bindTs, isAtom, isLst, isDK, plainAt, wipeE, backE, mFor, mLc, mDc, mWhile, mBk, mCt, mNo, mSl, mNoP, mPt, mJoin, mRng1, mRng2, mZip, mCallK, pickL, mMeth, mProp, mMake, mFld, fnI, fnIR, mDisp, mPairs, o2I, gtI, geI, leI, mStar, mStarT, mStarL, mAugI, mIndex, List.replicate, q1, q4, q6, q7])
end
/-! ### the moment of a row -/
end RW
namespace RW
open PySem L2
/-! ### data that can be shown -/
structure FitP (p : PyData) (n k : Nat) : Prop where
  sh : p.showable = true
  lf : p.leavesShort 13 = true
  wt : p.weight ≤ n
  dp : p.depth ≤ k
def Fit (d : D) (n k : Nat) : Prop := ∃ p, toPy d = some p ∧ FitP p n k
theorem Fit.mono {d : D} {n n' k k' : Nat} (h : Fit d n k) (h1 : n ≤ n') (h2 : k ≤ k') : Fit d n' k' :=
  let ⟨p, e, f⟩ := h
  ⟨p, e, f.sh, f.lf, Nat.le_trans f.wt h1, Nat.le_trans f.dp h2⟩
theorem fit_non : Fit .non 0 0 := ⟨_, rfl, rfl, rfl, Nat.le_refl _, Nat.le_refl _⟩
theorem fit_str {x : Str} (h : isName x) : Fit (.str x) 6 0 := by
  refine ⟨.str x, rfl, rfl, ?_, h.2.1, Nat.le_refl _⟩
  show x.cps.toList.all _ = true
  rw [List.all_eq_true]
  intro c hc
  have := lets_mem.mp (h.2.2 c hc)
  exact decide_eq_true (by omega)
theorem fit_all : ∀ {ds : List D} {n k : Nat}, (∀ d ∈ ds, Fit d n k) → ∃ ps, toPyAll ds = some ps ∧ PyData.showableAll ps = true ∧ PyData.leavesShortAll 13 ps = true ∧ PyData.weightAll ps ≤ (n + 1) * ds.length ∧ PyData.depthAll ps ≤ k
  | [], n, k, _ => ⟨[], rfl, rfl, rfl, by simp [PyData.weightAll], by simp [PyData.depthAll]⟩
  | d :: ds, n, k, h => by
    obtain ⟨p, e, f⟩ := h d List.mem_cons_self
    obtain ⟨ps, e2, f1, f2, f3, f4⟩ := fit_all (ds := ds) fun x hx => h x (List.mem_cons_of_mem _ hx)
    refine ⟨p :: ps, ?_, ?_, ?_, ?_, ?_⟩
    · rw [toPyAll, e, e2]; rfl
    · simp [PyData.showableAll, f.sh, f1]
    · simp [PyData.leavesShortAll, f.lf, f2]
    · have := f.wt
      rw [PyData.weightAll, List.length_cons, Nat.mul_add]; omega
    · have := f.dp
      rw [PyData.depthAll]; omega
theorem fit_lst {ds : List D} {n k : Nat} (h : ∀ d ∈ ds, Fit d n k) : Fit (.lst ds) ((n + 1) * ds.length) (k + 1) := by
  obtain ⟨ps, e, f1, f2, f3, f4⟩ := fit_all h
  refine ⟨.list ps, by rw [toPy, e]; rfl, by rw [PyData.showable]; exact f1, by rw [PyData.leavesShort]; exact f2, by rw [PyData.weight]; exact f3, by rw [PyData.depth]; omega⟩
theorem fit_tup {ds : List D} {n k : Nat} (h : ∀ d ∈ ds, Fit d n k) : Fit (.tup ds) ((n + 1) * ds.length) (k + 1) := by
  obtain ⟨ps, e, f1, f2, f3, f4⟩ := fit_all h
  refine ⟨.tuple ps, by rw [toPy, e]; rfl, by rw [PyData.showable]; exact f1, by rw [PyData.leavesShort]; exact f2, by rw [PyData.weight]; exact f3, by rw [PyData.depth]; omega⟩
theorem fit_kv : ∀ {es : List (D × D)} {n k : Nat}, (∀ e ∈ es, Fit e.1 n k ∧ Fit e.2 n k) → ∃ ps, toPyKv es = some ps ∧ PyData.showableKv ps = true ∧ PyData.leavesShortKv 13 ps = true ∧ PyData.weightKv ps ≤ (2 * n + 2) * es.length ∧ PyData.depthKv ps ≤ k
  | [], n, k, _ => ⟨[], rfl, rfl, rfl, by simp [PyData.weightKv], by simp [PyData.depthKv]⟩
  | d :: ds, n, k, h => by
    obtain ⟨⟨p, e, f⟩, p', e', f'⟩ := h d List.mem_cons_self
    obtain ⟨ps, e2, f1, f2, f3, f4⟩ := fit_kv (es := ds) fun x hx => h x (List.mem_cons_of_mem _ hx)
    refine ⟨(p, p') :: ps, ?_, ?_, ?_, ?_, ?_⟩
    · rw [toPyKv, e, e', e2]; rfl
    · simp [PyData.showableKv, f.sh, f'.sh, f1]
    · simp [PyData.leavesShortKv, f.lf, f'.lf, f2]
    · have := f.wt
      have := f'.wt
      rw [PyData.weightKv, List.length_cons, Nat.mul_add]; omega
    · have := f.dp
      have := f'.dp
      rw [PyData.depthKv]; omega
theorem fit_dct {es : List (D × D)} {n k : Nat} (h : ∀ e ∈ es, Fit e.1 n k ∧ Fit e.2 n k) : Fit (.dct false es) ((2 * n + 2) * es.length) (k + 1) := by
  obtain ⟨ps, e, f1, f2, f3, f4⟩ := fit_kv h
  refine ⟨.dict ps, by rw [toPy, e]; rfl, by rw [PyData.showable]; exact f1, by rw [PyData.leavesShort]; exact f2, by rw [PyData.weight]; exact f3, by rw [PyData.depth]; omega⟩
theorem Fit.repr {d : D} {n k : Nat} (h : Fit d n k) (h1 : n ≤ 1000000) (h2 : k ≤ 40) : ∃ x, reprD d = some (.sh (.str x)) := by
  obtain ⟨p, e, f⟩ := h
  have hw := f.wt
  have hd := f.dp
  have hf : fitsPy p = true := by
    unfold fitsPy
    rw [f.sh, f.lf]
    have e20 : (2 : Nat) ^ 20 = 1048576 := rfl
    simp only [Bool.true_and, Bool.and_eq_true]
    exact ⟨decide_eq_true (by omega), decide_eq_true (by omega)⟩
  refine ⟨p.shown, ?_⟩
  unfold reprD reprS
  rw [e]
  show Option.map _ (if fitsPy p = true then some _ else none) = _
  rw [if_pos hf]; rfl
theorem fit_dS {xs : List Str} (h : ∀ x ∈ xs, isName x) : ∀ d ∈ dS xs, Fit d 6 0 := fun d hd => by
  obtain ⟨x, hx, rfl⟩ := List.mem_map.mp hd
  exact fit_str (h x hx)
theorem fit_dO {y : Option Str} (h : ∀ x, y = some x → isName x) : Fit (dO y) 6 0 := by
  cases y with
  | none => exact fit_non.mono (by omega) (by omega)
  | some x => exact fit_str (h x rfl)
theorem fit_dT {α : Type} {f : α → D} {t : List (Str × α)} {n k : Nat} (hk : ∀ p ∈ t, isName p.1) (hv : ∀ p ∈ t, Fit (f p.2) n k) (h6 : 6 ≤ n) : Fit (dT f t) ((2 * n + 2) * t.length) (k + 1) := by
  unfold dT
  have := fit_dct (es := t.map fun p => (D.str p.1, f p.2)) (n := n) (k := k) fun e he => by
    obtain ⟨p, hp, rfl⟩ := List.mem_map.mp he
    exact ⟨(fit_str (hk p hp)).mono h6 (Nat.zero_le _), hv p hp⟩
  rw [List.length_map] at this
  exact this
/-! ### equal data -/
end RW
namespace RW
open PySem L2 Gr
/-! ### a model with one way otherwise -/
def wayP (b : Bool) (x : Str) (y : Option Str) (p : Tab × Tab) : Tab × Tab := if b = true then (p.1, putT p.2 x y) else (putT p.1 x y, p.2)
def wayR (e x : Str) (b : Bool) (y : Option Str) (rows : List (Str × (Tab × Tab))) : List (Str × (Tab × Tab)) := rows.map fun q => if q.1 = e then (q.1, wayP b x y q.2) else q
def wayM (M : Mod) (e x : Str) (b : Bool) (y : Option Str) : Mod := ⟨wayR e x b y M.rows, M.dots, M.sources, M.posts⟩
def ordM (M : Mod) : Mod := ⟨ordR M, M.dots, M.sources, M.posts⟩
theorem wayR_keys (e x : Str) (b : Bool) (y : Option Str) (rows : List (Str × (Tab × Tab))) : (wayR e x b y rows).map (·.1) = rows.map (·.1) := by
  unfold wayR
  rw [List.map_map]
  refine List.map_congr_left fun q _ => ?_
  show (if q.1 = e then (q.1, wayP b x y q.2) else q).1 = q.1
  split <;> rfl
theorem wayR_mem {e x : Str} {b : Bool} {y : Option Str} {rows : List (Str × (Tab × Tab))} {q : Str × (Tab × Tab)} (h : q ∈ wayR e x b y rows) : ∃ p ∈ rows, (p.1 = e ∧ q = (p.1, wayP b x y p.2)) ∨ (p.1 ≠ e ∧ q = p) := by
  obtain ⟨p, hp, rfl⟩ := List.mem_map.mp h
  refine ⟨p, hp, ?_⟩
  by_cases z : p.1 = e
  · exact .inl ⟨z, if_pos z⟩
  · exact .inr ⟨z, if_neg z⟩
theorem wayR_id {e x : Str} {b : Bool} {y : Option Str} {rows : List (Str × (Tab × Tab))} (h : e ∉ rows.map (·.1)) : wayR e x b y rows = rows := by
  unfold wayR
  have : ∀ q ∈ rows, (if q.1 = e then (q.1, wayP b x y q.2) else q) = q := fun q hq => if_neg fun z => h (List.mem_map.mpr ⟨q, hq, z⟩)
  rw [List.map_congr_left this]; simp
theorem put_wayR {e x : Str} {b : Bool} {y : Option Str} {rows : List (Str × (Tab × Tab))} {p : Tab × Tab} (hn : (rows.map (·.1)).Nodup) (hp : (e, p) ∈ rows) : putT rows e (wayP b x y p) = wayR e x b y rows := by
  unfold putT wayR
  rw [if_pos (List.mem_map.mpr ⟨_, hp, rfl⟩)]
  refine List.map_congr_left fun q hq => ?_
  by_cases z : q.1 = e
  · rw [if_pos z, if_pos z]
    have h1 := lookup_of_mem hn hq
    have h2 := lookup_of_mem hn hp
    rw [z, h2] at h1
    cases h1; rfl
  · rw [if_neg z, if_neg z]
theorem lookup_put (k : Str) (y : Option Str) (z : Str) : ∀ t : Tab, (t.map fun p => if p.1 = k then (p.1, y) else p).lookup z = if z = k then (t.lookup z).map (fun _ => y) else t.lookup z
  | [] => by simp
  | q :: t => by
    obtain ⟨a, v⟩ := q
    have ih := lookup_put k y z t
    rw [List.map_cons, List.lookup_cons, ih]
    by_cases e : a = k
    · subst e
      by_cases hz : z = a
      · subst hz; simp
      · have : (z == a) = false := by simpa using hz
        simp [List.lookup_cons, this, hz]
    · by_cases hz : z = k
      · subst hz
        have : (z == a) = false := by simpa using Ne.symm e
        simp [List.lookup_cons, this, e]
      · by_cases hza : z = a
        · subst hza; simp [List.lookup_cons, e]
        · have : (z == a) = false := by simpa using hza
          simp [List.lookup_cons, this, e, hz]
theorem look_put {t : Tab} {k : Str} (hk : k ∈ t.map (·.1)) (y : Option Str) (z : Str) : look (putT t k y) z = if z = k then y else look t z := by
  unfold look putT
  rw [if_pos hk, lookup_put]
  by_cases e : z = k
  · subst e
    rw [if_pos rfl, if_pos rfl]
    obtain ⟨v, hv⟩ := Option.isSome_iff_exists.mp (look_some.mp hk)
    rw [hv]; rfl
  · rw [if_neg e, if_neg e]
theorem tab_put {dots : List Str} {e x : Str} {t : Tab} {y : Option Str} (h : TabOk dots e t) (hx : x ∈ dots) (hy : PlaceOk dots e x y) : TabOk dots e (putT t x y) := by
  have hk : x ∈ t.map (·.1) := h.1.mem_iff.mpr hx
  refine ⟨by rw [putT_keys hk]; exact h.1, fun p hp => ?_⟩
  unfold putT at hp
  rw [if_pos hk] at hp
  obtain ⟨q, hq, rfl⟩ := List.mem_map.mp hp
  by_cases z : q.1 = x
  · rw [if_pos z]
    show PlaceOk dots e q.1 y
    rw [z]; exact hy
  · rw [if_neg z]; exact h.2 q hq
theorem wayP_ok {dots : List Str} {e x : Str} {b : Bool} {y : Option Str} {p : Tab × Tab} (h : TabOk dots e p.1 ∧ TabOk dots e p.2) (hx : x ∈ dots) (hy : PlaceOk dots e x y) : TabOk dots e (wayP b x y p).1 ∧ TabOk dots e (wayP b x y p).2 := by
  unfold wayP
  cases b with
  | true => exact ⟨h.1, tab_put h.2 hx hy⟩
  | false => exact ⟨tab_put h.1 hx hy, h.2⟩
section
variable {M : Mod} (hM : ModOk M)
include hM
theorem wayM_ok {e x : Str} {b : Bool} {y : Option Str} (hx : x ∈ M.dots) (hy : PlaceOk M.dots e x y) : ModOk (wayM M e x b y) := by
  have hk := wayR_keys e x b y M.rows
  have hl : (wayR e x b y M.rows).length = M.rows.length := by unfold wayR; rw [List.length_map]
  have nm : ∀ q ∈ wayR e x b y M.rows, ∃ p ∈ M.rows, q.1 = p.1 := fun q hq => by
    obtain ⟨p, hp, ⟨_, rfl⟩ | ⟨_, rfl⟩⟩ := wayR_mem hq
    · exact ⟨p, hp, rfl⟩
    · exact ⟨_, hp, rfl⟩
  refine ⟨⟨by show 0 < (wayR e x b y M.rows).length; rw [hl]; exact hM.r1, by show (wayR e x b y M.rows).length ≤ 2; rw [hl]; exact hM.r2, by show ((wayR e x b y M.rows).map (·.1)).Nodup; rw [hk]; exact hM.rn, fun q hq => ?_, fun q hq => ?_, fun q hq => ?_, hM.d1, hM.d2, hM.dn, hM.du, hM.dname, hM.sn, hM.su, hM.ssub, hM.pn, hM.p2, hM.psub⟩, by show Up ((wayR e x b y M.rows).map (·.1)); rw [hk]; exact hM.ru⟩
  · obtain ⟨p, hp, e1⟩ := nm q hq
    rw [e1]; exact hM.rname p hp
  · obtain ⟨p, hp, e1⟩ := nm q hq
    rw [e1]; exact hM.rdot p hp
  · obtain ⟨p, hp, ⟨z, rfl⟩ | ⟨_, rfl⟩⟩ := wayR_mem hq
    · exact wayP_ok (hM.tab p hp) hx (by rw [z]; exact hy)
    · exact hM.tab _ hp
omit hM in
theorem ordK (dots : List Str) (t : Tab) : (ordT dots t).map (·.1) = dots := by
  unfold ordT; rw [List.map_map]; simp [Function.comp_def]
omit hM in
theorem ordL {dots : List Str} {t : Tab} {x : Str} (hx : x ∈ dots) : look (ordT dots t) x = look t x := by
  show ((ordT dots t).lookup x).getD none = _
  rw [ordT_look hx]; rfl
omit hM in
theorem ord_tab {dots : List Str} {e : Str} {t : Tab} (h : TabOk dots e t) : TabOk dots e (ordT dots t) := by
  refine ⟨by rw [ordK], fun p hp => ?_⟩
  obtain ⟨x, hx, rfl⟩ := List.mem_map.mp hp
  exact (tab_look h hx).2
theorem ordM_ok : ModOk (ordM M) := by
  have hk : (ordR M).map (·.1) = M.rows.map (·.1) := by unfold ordR; rw [List.map_map]; rfl
  have hl : (ordR M).length = M.rows.length := by unfold ordR; rw [List.length_map]
  refine ⟨⟨by show 0 < (ordR M).length; rw [hl]; exact hM.r1, by show (ordR M).length ≤ 2; rw [hl]; exact hM.r2, by show ((ordR M).map (·.1)).Nodup; rw [hk]; exact hM.rn, fun q hq => ?_, fun q hq => ?_, fun q hq => ?_, hM.d1, hM.d2, hM.dn, hM.du, hM.dname, hM.sn, hM.su, hM.ssub, hM.pn, hM.p2, hM.psub⟩, by show Up ((ordR M).map (·.1)); rw [hk]; exact hM.ru⟩
  · obtain ⟨p, hp, rfl⟩ := List.mem_map.mp hq
    exact hM.rname p hp
  · obtain ⟨p, hp, rfl⟩ := List.mem_map.mp hq
    exact hM.rdot p hp
  · obtain ⟨p, hp, rfl⟩ := List.mem_map.mp hq
    exact ⟨ord_tab (hM.tab p hp).1, ord_tab (hM.tab p hp).2⟩
omit hM in
theorem way_look {dots : List Str} {e x : Str} {b : Bool} {y : Option Str} {p : Tab × Tab} (h : TabOk dots e p.1 ∧ TabOk dots e p.2) (hx : x ∈ dots) {z : Str} (hz : z ∈ dots) : look (wayP b x y (ordT dots p.1, ordT dots p.2)).1 z = look (wayP b x y p).1 z ∧ look (wayP b x y (ordT dots p.1, ordT dots p.2)).2 z = look (wayP b x y p).2 z := by
  have k1 : ∀ t, x ∈ (ordT dots t).map (·.1) := fun t => by rw [ordK]; exact hx
  have k2 : ∀ t, TabOk dots e t → x ∈ t.map (·.1) := fun t ht => ht.1.mem_iff.mpr hx
  unfold wayP
  cases b with
  | true =>
    refine ⟨ordL hz, ?_⟩
    show look (putT (ordT dots p.2) x y) z = look (putT p.2 x y) z
    rw [look_put (k1 _), look_put (k2 _ h.2), ordL hz]
  | false =>
    refine ⟨?_, ordL hz⟩
    show look (putT (ordT dots p.1) x y) z = look (putT p.1 x y) z
    rw [look_put (k1 _), look_put (k2 _ h.1), ordL hz]
theorem way_chg {e x : Str} {b : Bool} {y : Option Str} (hx : x ∈ M.dots) : changing (wayM (ordM M) e x b y) = changing (wayM M e x b y) := by
  refine List.filter_congr fun z hz => ?_
  have hz : z ∈ M.dots := hz
  show (wayR e x b y (ordR M)).any _ = (wayR e x b y M.rows).any _
  unfold wayR ordR
  rw [List.map_map, List.any_map, List.any_map]
  have key : ∀ q ∈ M.rows, (!decide (look (if q.1 = e then (q.1, wayP b x y (ordT M.dots q.2.1, ordT M.dots q.2.2)) else (q.1, (ordT M.dots q.2.1, ordT M.dots q.2.2))).2.1 z = look (if q.1 = e then (q.1, wayP b x y (ordT M.dots q.2.1, ordT M.dots q.2.2)) else (q.1, (ordT M.dots q.2.1, ordT M.dots q.2.2))).2.2 z)) = (!decide (look (if q.1 = e then (q.1, wayP b x y q.2) else q).2.1 z = look (if q.1 = e then (q.1, wayP b x y q.2) else q).2.2 z)) := fun q hq => by
    by_cases h : q.1 = e
    · rw [if_pos h, if_pos h]
      obtain ⟨h1, h2⟩ := way_look (b := b) (y := y) (hM.tab q hq) hx hz
      rw [h1, h2]
    · rw [if_neg h, if_neg h]
      show (!decide (look (ordT M.dots q.2.1) z = look (ordT M.dots q.2.2) z)) = _
      rw [ordL hz, ordL hz]
  have any2 : ∀ (l : List (Str × (Tab × Tab))) (f g : Str × (Tab × Tab) → Bool), (∀ q ∈ l, f q = g q) → l.any f = l.any g := fun l f g h => by
    induction l with
    | nil => rfl
    | cons q l ih => rw [List.any_cons, List.any_cons, h q List.mem_cons_self, ih fun q hq => h q (List.mem_cons_of_mem _ hq)]
  exact any2 M.rows _ _ key
omit hM in
theorem web_congr {dots : List Str} {p p' : Tab × Tab} {ready part : List Str} (h : ∀ z ∈ dots, look p.1 z = look p'.1 z ∧ look p.2 z = look p'.2 z) : webOf dots p ready part = webOf dots p' ready part := by
  refine List.map_congr_left fun z hz => ?_
  obtain ⟨h1, h2⟩ := h z hz
  unfold spW
  rw [h1, h2]
end
end RW
namespace RW
open PySem L2 Gr
/-! ### Net.tables, Net.with_way -/
section
variable {R : Type} {T : Fm R}
theorem dcG_enc {α : Type} {vs : List Nat} {Tt : Tg} {mk m0 m1 : M R Vr} (enc : α → D) (kf : α → Str) (f0 f1 : α → D) {e : List (Option Cell)} {r : R} (pl : plainAt e vs = true) : ∀ (xs : List α) (acc : List (D × D)),
    (∀ x ∈ xs, ∃ e', bindT Tt (enc x) (wipeE e vs) = some e' ∧ backE e e' vs = e ∧ mk ⟨e', r⟩ = some (.sh (.str (kf x)), ⟨e', r⟩) ∧ m0 ⟨e', r⟩ = some (.tmp (f0 x), ⟨e', r⟩) ∧ m1 ⟨e', r⟩ = some (.tmp (f1 x), ⟨e', r⟩)) →
    (xs.map kf).Nodup → (∀ x ∈ xs, (acc.any fun p => keq p.1 (.str (kf x))) = false) → acc.length + xs.length ≤ sizeLine → dcG vs Tt mk m0 m1 (xs.map enc) acc ⟨e, r⟩ = some (acc ++ xs.map fun x => (.str (kf x), .tup [f0 x, f1 x]), ⟨e, r⟩)
  | [], acc, _, _, _, _ => by simp [dcG]
  | x :: xs, acc, h, hn, ha, hl => by
    obtain ⟨e', h1, h2, h3, h4, h5⟩ := h x List.mem_cons_self
    rw [List.map_cons, List.nodup_cons] at hn
    have hx := ha x List.mem_cons_self
    rw [List.length_cons] at hl
    have ih := dcG_enc enc kf f0 f1 pl xs (acc ++ [(.str (kf x), .tup [f0 x, f1 x])]) (fun z hz => h z (List.mem_cons_of_mem _ hz)) hn.2 (fun z hz => by
      rw [List.any_append, ha z (List.mem_cons_of_mem _ hz)]
      have : kf x ≠ kf z := fun q => hn.1 (by rw [q]; exact List.mem_map_of_mem hz)
      simp [keq, this]) (by rw [List.length_append]; simp; omega)
    rw [List.map_cons, dcG]
    have hk : kOf (.str (kf x)) = some (.inr (kf x)) := rfl
    have hkd : keyD (.inr (kf x)) = .str (kf x) := rfl
    simp only [pl, if_true, h1, Option.bind_some, h3, soft, esc, hk, h4, h5, hkd, hx, h2]
    rw [if_pos ⟨by omega, trivial⟩, ih]
    simp
theorem tables_ok {M : Mod} (hM : ModOk M) (r : R) : t_Net_tables T [netD M] r = some ((ordR M).map fun q => (D.str q.1, dP q.2), r) := by
  have hk : (ordR M).map (·.1) = M.rows.map (·.1) := by unfold ordR; rw [List.map_map]; rfl
  have hl : (ordR M).length ≤ 2 := by unfold ordR; rw [List.length_map]; exact hM.r2
  have hp : pairsOf (dT dP (ordR M)) = some ((ordR M).map fun q => .tup [.str q.1, dP q.2]) := by
    unfold dT
    show some _ = some _
    rw [List.map_map]; rfl
  have hf := fld1 M
  generalize hrows : ordR M = rows at *
  have hmi : mIt pairsOf (mOp1 (fldD 0 "own_tables") (mV 0)) (⟨[some ⟨netD M, false⟩, none, none], r⟩ : S R) = some (rows.map fun q => .tup [.str q.1, dP q.2], ⟨[some ⟨netD M, false⟩, none, none], r⟩) := by
    simp [fnM, fnR, ent, mSeq, mSet, mV, mC, mOp1, mOp2, mChain, mAnd, mOr, mNot, mIf, mArgs, escAll, esc, soft, pk, hard, put, puts, mHards, mPar, mTup, mLst, mDct0, mCall, mRest, mRt, mRtN, mNx, mEx, mIte, mMut, mPut, mIt, bindT, bindTs, isAtom, isLst, isDK, plainAt, wipeE, backE, mFor, mLc, mDc, mWhile, mBk, mCt, mNo, mSl, mNoP, mPt, mJoin, mRng1, mRng2, mZip, mCallK, pickL, mMeth, mProp, mMake, mFld, fnI, fnIR, mDisp, mPairs, o2I, gtI, geI, leI, mStar, mStarT, mStarL, mAugI, mIndex, hf, hp]
  have key := dcG_enc (R := R) (vs := [1, 2]) (Tt := .tp [.nm 1, .nm 2]) (mk := mV 1) (m0 := mOp1 dictD (mOp2 idxD (mV 2) (mC (.int 0)))) (m1 := mOp1 dictD (mOp2 idxD (mV 2) (mC (.int 1)))) (fun q : Str × (Tab × Tab) => .tup [.str q.1, dP q.2]) (fun q => q.1) (fun q => dT dO q.2.1) (fun q => dT dO q.2.2) (e := [some ⟨netD M, false⟩, none, none]) (r := r) (by rfl) rows [] (fun q hq => by
    refine ⟨[some ⟨netD M, false⟩, some ⟨.str q.1, false⟩, some ⟨dP q.2, false⟩], rfl, rfl, rfl, ?_, ?_⟩
    · have h1 : idxD (dP q.2) (.int 0) = some (.sh (dT dO q.2.1)) := idx_tup2_0 _ _
      have h2 : dictD (dT dO q.2.1) = some (.tmp (dT dO q.2.1)) := rfl
      simp [fnM, fnR, ent, mSeq, mSet, mV, mC, mOp1, mOp2, mChain, mAnd, mOr, mNot, mIf, mArgs, escAll, esc, soft, pk, hard, put, puts, mHards, mPar, mTup, mLst, mDct0, mCall, mRest, mRt, mRtN, mNx, mEx, mIte, mMut, mPut, mIt, bindT, bindTs, isAtom, isLst, isDK, plainAt, wipeE, backE, mFor, mLc, mDc, mWhile, mBk, mCt, mNo, mSl, mNoP, mPt, mJoin, mRng1, mRng2, mZip, mCallK, pickL, mMeth, mProp, mMake, mFld, fnI, fnIR, mDisp, mPairs, o2I, gtI, geI, leI, mStar, mStarT, mStarL, mAugI, mIndex, h1, h2]
    · have h1 : idxD (dP q.2) (.int 1) = some (.sh (dT dO q.2.2)) := idx_tup2_1 _ _
      have h2 : dictD (dT dO q.2.2) = some (.tmp (dT dO q.2.2)) := rfl
      simp [fnM, fnR, ent, mSeq, mSet, mV, mC, mOp1, mOp2, mChain, mAnd, mOr, mNot, mIf, mArgs, escAll, esc, soft, pk, hard, put, puts, mHards, mPar, mTup, mLst, mDct0, mCall, mRest, mRt, mRtN, mNx, mEx, mIte, mMut, mPut, mIt, bindT, bindTs, isAtom, isLst, isDK, plainAt, wipeE, backE, mFor, mLc, mDc, mWhile, mBk, mCt, mNo, mSl, mNoP, mPt, mJoin, mRng1, mRng2, mZip, mCallK, pickL, mMeth, mProp, mMake, mFld, fnI, fnIR, mDisp, mPairs, o2I, gtI, geI, leI, mStar, mStarT, mStarL, mAugI, mIndex, h1, h2]) (by rw [hk]; exact hM.rn) (fun _ _ => rfl) (by unfold sizeLine; simp; omega)
  unfold t_Net_tables fnT
  show ((mDcG [1, 2] _ _ _ _ _ ⟨[some ⟨netD M, false⟩, none, none], r⟩).map _ : Option (List (D × D) × R)) = _
  unfold mDcG
  rw [hmi]
  show ((dcG [1, 2] _ _ _ _ (rows.map fun q => .tup [.str q.1, dP q.2]) [] ⟨[some ⟨netD M, false⟩, none, none], r⟩).map _ : Option (List (D × D) × R)) = _
  rw [key]
  rfl
omit T in
theorem pair_put (b : Bool) (x : Str) (y : Option Str) (p : Tab × Tab) (h1 : p.1.length < sizeLine) (h2 : p.2.length < sizeLine) : pairPut b x (dO y) (dP p) = some (dP (wayP b x y p)) := by
  have e1 := put_dT dO p.1 x y
  have e2 := put_dT dO p.2 x y
  show (if (p.1.map fun q => (D.str q.1, dO q.2)).length < sizeLine ∧ (p.2.map fun q => (D.str q.1, dO q.2)).length < sizeLine then _ else none) = _
  rw [if_pos ⟨by rw [List.length_map]; exact h1, by rw [List.length_map]; exact h2⟩]
  cases b with
  | true => rw [if_pos rfl, e2]; rfl
  | false => rw [if_neg Bool.false_ne_true, e1]; rfl
omit T in
theorem tabPut_rows {e x : Str} {b : Bool} {y : Option Str} : ∀ {rows : List (Str × (Tab × Tab))}, e ∈ rows.map (·.1) → (rows.map (·.1)).Nodup → (∀ q ∈ rows, q.2.1.length < sizeLine ∧ q.2.2.length < sizeLine) →
    tabPut e b x (dO y) (rows.map fun q => (D.str q.1, dP q.2)) = some ((wayR e x b y rows).map fun q => (D.str q.1, dP q.2))
  | [], h, _, _ => by cases h
  | q :: rows, h, hn, hl => by
    rw [List.map_cons, List.nodup_cons] at hn
    rw [List.map_cons, tabPut]
    have hk : keq (.str q.1) (.str e) = decide (q.1 = e) := rfl
    rw [hk]
    have hw : wayR e x b y (q :: rows) = (if q.1 = e then (q.1, wayP b x y q.2) else q) :: wayR e x b y rows := rfl
    rw [hw]
    by_cases z : q.1 = e
    · rw [if_pos (by simp [z]), pair_put b x y q.2 (hl q List.mem_cons_self).1 (hl q List.mem_cons_self).2, if_pos z, wayR_id (by rw [← z]; exact hn.1)]
      rfl
    · rw [if_neg (by simp [z]), if_neg z]
      rw [List.map_cons] at h
      rw [tabPut_rows ((List.mem_cons.mp h).resolve_left fun h => z h.symm) hn.2 fun q' hq' => hl q' (List.mem_cons_of_mem _ hq')]
      rfl
theorem is_placeT_ok {dots : List Str} {e x : Str} {y : Option Str} (h : PlaceOk dots e x y) (r : R) : f_is_place T [.tup (dS dots), .str e, .str x, dO y] r = some (.sh (.bl true), r) := by
  unfold f_is_place m_is_place
  rcases h with rfl | rfl | ⟨z, rfl, hz, hne⟩
  · simp [fnM, fnR, ent, mSeq, mSet, mV, mC, mOp1, mOp2, mChain, mAnd, mOr, mNot, mIf, mArgs, escAll, esc, soft, pk, hard, put, puts, mHards, mPar, mTup, mLst, mDct0, mCall, mRest, mRt, mRtN, mNx, mEx, mIte, mMut, mPut, mIt, bindT, bindTs, isAtom, isLst, isDK, plainAt, wipeE, backE, mFor, mLc, mDc, mWhile, mBk, mCt, mNo, mSl, mNoP, mPt, mJoin, mRng1, mRng2, mZip, mCallK, pickL, mMeth, mProp, mMake, mFld, fnI, fnIR, mDisp, mPairs, o2I, gtI, geI, leI, mStar, mStarT, mStarL, mAugI, mIndex, dO, isN]
  · simp [fnM, fnR, ent, mSeq, mSet, mV, mC, mOp1, mOp2, mChain, mAnd, mOr, mNot, mIf, mArgs, escAll, esc, soft, pk, hard, put, puts, mHards, mPar, mTup, mLst, mDct0, mCall, mRest, mRt, mRtN, mNx, mEx, mIte, mMut, mPut, mIt, bindT, bindTs, isAtom, isLst, isDK, plainAt, wipeE, backE, mFor, mLc, mDc, mWhile, mBk, mCt, mNo, mSl, mNoP, mPt, mJoin, mRng1, mRng2, mZip, mCallK, pickL, mMeth, mProp, mMake, mFld, fnI, fnIR, mDisp, mPairs, o2I, gtI, geI, leI, mStar, mStarT, mStarL, mAugI, mIndex, dO, isN, isi_str, eq_str]
  · by_cases h : z = e
    · subst h
      simp [fnM, fnR, ent, mSeq, mSet, mV, mC, mOp1, mOp2, mChain, mAnd, mOr, mNot, mIf, mArgs, escAll, esc, soft, pk, hard, put, puts, mHards, mPar, mTup, mLst, mDct0, mCall, mRest, mRt, mRtN, mNx, mEx, mIte, mMut, mPut, mIt, bindT, bindTs, isAtom, isLst, isDK, plainAt, wipeE, backE, mFor, mLc, mDc, mWhile, mBk, mCt, mNo, mSl, mNoP, mPt, mJoin, mRng1, mRng2, mZip, mCallK, pickL, mMeth, mProp, mMake, mFld, fnI, fnIR, mDisp, mPairs, o2I, gtI, geI, leI, mStar, mStarT, mStarL, mAugI, mIndex, dO, isN, isi_str, eq_str]
    · simp [fnM, fnR, ent, mSeq, mSet, mV, mC, mOp1, mOp2, mChain, mAnd, mOr, mNot, mIf, mArgs, escAll, esc, soft, pk, hard, put, puts, mHards, mPar, mTup, mLst, mDct0, mCall, mRest, mRt, mRtN, mNx, mEx, mIte, mMut, mPut, mIt, bindT, bindTs, isAtom, isLst, isDK, plainAt, wipeE, backE, mFor, mLc, mDc, mWhile, mBk, mCt, mNo, mSl, mNoP, mPt, mJoin, mRng1, mRng2, mZip, mCallK, pickL, mMeth, mProp, mMake, mFld, fnI, fnIR, mDisp, mPairs, o2I, gtI, geI, leI, mStar, mStarT, mStarL, mAugI, mIndex, dO, isN, isi_str, eq_str, h, inD, in_tup, hz, ne_str, hne]
theorem with_way_ok {M : Mod} (hM : ModOk M) {e x : Str} (he : e ∈ M.rows.map (·.1)) (hx : x ∈ M.dots) {y : Option Str} (hy : PlaceOk M.dots e x y) (b : Bool) (r : R) :
    f_Net_with_way T [netD M, .str e, .str x, .bl b, dO y] r = some (.tmp (netD (wayM (ordM M) e x b y)), r) := by
  have hN := wayM_ok (b := b) (ordM_ok hM) (e := e) (x := x) (y := y) hx hy
  have hk : (ordR M).map (·.1) = M.rows.map (·.1) := by unfold ordR; rw [List.map_map]; rfl
  have d2 := hM.d2
  have q1 := need_goal_ok (T := T) (M := M) he r
  have q2 := need_node_ok (T := T) (M := M) hx r
  have q3 := is_placeT_ok (T := T) hy r
  have q4 := tables_ok (T := T) hM r
  have q5 := tabPut_rows (e := e) (x := x) (b := b) (y := y) (rows := ordR M) (by rw [hk]; exact he) (by rw [hk]; exact hM.rn) (fun q hq => by
    obtain ⟨p, hp, rfl⟩ := List.mem_map.mp hq
    have h1 : (ordT M.dots p.2.1).length = M.dots.length := by unfold ordT; rw [List.length_map]
    have h2 : (ordT M.dots p.2.2).length = M.dots.length := by unfold ordT; rw [List.length_map]
    constructor
    · show (ordT M.dots p.2.1).length < sizeLine
      rw [h1]; unfold sizeLine; omega
    · show (ordT M.dots p.2.2).length < sizeLine
      rw [h2]; unfold sizeLine; omega)
  have q6 : i_Net___init__ T [.dct false ((wayR e x b y (ordR M)).map fun q => (D.str q.1, dP q.2)), .tup (dS M.sources), .tup (dS M.posts)] r = some (netF (wayM (ordM M) e x b y), r) := net_gen2 (T := T) hN (List.Perm.refl _) true true r
  have f3 := fld3 M
  have f4 := fld4 M
  have f5 := fld5 M
  have hob : netD M = .obj 0 (netF M) := rfl
  have hi : ((if b = true then (1 : Int) else 0) = 0 ∨ (if b = true then (1 : Int) else 0) = 1) := by cases b <;> simp
  have hnD : D.obj 0 (netF (wayM (ordM M) e x b y)) = netD (wayM (ordM M) e x b y) := rfl
  unfold f_Net_with_way m_Net_with_way
  generalize hW : mTabs _ _ _ _ _ _ _ _ = W
  have eW : W ⟨[some ⟨netD M, false⟩, some ⟨.str e, false⟩, some ⟨.str x, false⟩, some ⟨.bl b, false⟩, some ⟨dO y, false⟩, none], r⟩ = some (.nx, ⟨[some ⟨netD M, false⟩, some ⟨.str e, false⟩, some ⟨.str x, false⟩, some ⟨.bl b, false⟩, some ⟨dO y, false⟩, some ⟨.dct false ((wayR e x b y (ordR M)).map fun q => (D.str q.1, dP q.2)), false⟩], r⟩) := by
    rw [← hW]
    rw [hob] at q4 ⊢
    generalize netF M = nf at *
    generalize (ordR M).map (fun q => (D.str q.1, dP q.2)) = es at *
    generalize (wayR e x b y (ordR M)).map (fun q => (D.str q.1, dP q.2)) = es' at *
    generalize dO y = dy at *
    cases b <;> simp [mTabs, fnM, fnR, ent, mSeq, mSet, mV, mC, mOp1, mOp2, mChain, mAnd, mOr, mNot, mIf, mArgs, escAll, esc, soft, pk, hard, put, puts, mHards, mPar, mTup, mLst, mDct0, mCall, mRest, mRt, mRtN, mNx, mEx, mIte, mMut, mPut, mIt, bindT, bindTs, isAtom, isLst, isDK, plainAt, wipeE, backE, mFor, mLc, mDc, mWhile, mBk, mCt, mNo, mSl, mNoP, mPt, mJoin, mRng1, mRng2, mZip, mCallK, pickL, mMeth, mProp, mMake, mFld, fnI, fnIR, mDisp, mPairs, o2I, gtI, geI, leI, mStar, mStarT, mStarL, mAugI, mIndex, q4, q5]
  generalize (wayR e x b y (ordR M)).map (fun q => (D.str q.1, dP q.2)) = es' at *
  generalize netF (wayM (ordM M) e x b y) = nf at *
  generalize netD (wayM (ordM M) e x b y) = nd2 at *
  generalize dO y = dy at *
  clear hob
  generalize netD M = nd at *
  simp [fnM, fnR, ent, mSeq, mSet, mV, mC, mOp1, mOp2, mChain, mAnd, mOr, mNot, mIf, mArgs, escAll, esc, soft, pk, hard, put, puts, mHards, mPar, mTup, mLst, mDct0, mCall, mRest, mRt, mRtN, mNx, mEx, mIte, mMut, mPut, mIt, bindT, bindTs, isAtom, isLst, isDK, plainAt, wipeE, backE, mFor, mLc, mDc, mWhile, mBk, mCt, mNo, mSl, mNoP, mPt, mJoin, mRng1, mRng2, mZip, mCallK, pickL, mMeth, mProp, mMake, mFld, fnI, fnIR, mDisp, mPairs, o2I, gtI, geI, leI, mStar, mStarT, mStarL, mAugI, mIndex, List.replicate, q1, q2, q3, f3, f4, f5, eW, q6, hnD]
end
end RW
namespace RW
open PySem L2 Gr
/-! ### the law's own model with another way -/
section
variable {R : Type} {T : Fm R}
theorem pick_S (hT : Draws T) {xs : List Str} (h : 0 < xs.length) (h2 : xs.length < 1000) (r : R) : ∃ x r', x ∈ xs ∧ f__law_pick T [.res, .lst (dS xs)] r = some (.sh (.str x), r') := by
  obtain ⟨d, r', hd, e⟩ := pick_ok hT (dS xs) (by rw [dS_length]; exact h) (by rw [dS_length]; omega) r
  obtain ⟨x, hx, rfl⟩ := List.mem_map.mp hd
  exact ⟨x, r', hx, e⟩
theorem pick_O (hT : Draws T) {xs : List (Option Str)} (h : 0 < xs.length) (h2 : xs.length < 1000) (r : R) : ∃ x r', x ∈ xs ∧ f__law_pick T [.res, .lst (xs.map dO)] r = some (.sh (dO x), r') := by
  obtain ⟨d, r', hd, e⟩ := pick_ok hT (xs.map dO) (by simpa using h) (by simp; omega) r
  obtain ⟨x, hx, rfl⟩ := List.mem_map.mp hd
  exact ⟨x, r', hx, e⟩
/-- the places that the node can get -/
def spotsO (dots : List Str) (e x : Str) (cur : Option Str) : List (Option Str) := (dots.map some ++ [some e, none]).filter fun o => !decide (o ∈ [some x, cur])
theorem other_ok (hT : Draws T) {M : Mod} (hM : ModOk M) (r : R) : ∃ (e : Str) (p : Tab × Tab) (x : Str) (b : Bool) (y : Option Str) (r' : R), (e, p) ∈ M.rows ∧ x ∈ M.dots ∧ PlaceOk M.dots e x y ∧
    f__law_other T [.res, dMod M] r = some (.sh (.tup [dMod (wayM M e x b y), .str e, .str x, .bl b, dO y]), r') := by
  have d1 := hM.d1
  have d2 := hM.d2
  have r1' := hM.r1
  have r2' := hM.r2
  have hs : sortF (dT dP M.rows) = some (.tmp (.lst (dS (M.rows.map (·.1))))) := by
    rw [sort_dT (by omega), sortS_self hM.ru]
  obtain ⟨e, ra, he, q1⟩ := pick_S hT (xs := M.rows.map (·.1)) (by rw [List.length_map]; exact r1') (by rw [List.length_map]; omega) r
  obtain ⟨⟨e', p⟩, hp, rfl⟩ := List.mem_map.mp he
  obtain ⟨x, rb, hx, q2⟩ := pick_S hT (xs := M.dots) d1 (by omega) ra
  obtain ⟨k, rc, hk, q3⟩ := hT rb 2 (by omega) (by omega)
  obtain ⟨ht1, ht2⟩ := hM.tab _ hp
  have hrd := hM.rdot _ hp
  have hxe : x ≠ e' := fun z => hrd (by rw [← z]; exact hx)
  generalize e' = e at *
  have q3 : T [.res, .int 2] rb = some (.sh (.int k), rc) := q3
  -- the table that is changed
  let b : Bool := decide (k = 1)
  let tk : Tab := if b = true then p.2 else p.1
  have htk : TabOk M.dots e tk := by show TabOk M.dots e (if b = true then p.2 else p.1); split <;> assumption
  have hlk := (tab_look htk hx).1
  have hne : 0 < (spotsO M.dots e x (look tk x)).length := by
    have : ∃ o ∈ [some e, none], o ≠ look tk x := by
      by_cases z : look tk x = none
      · exact ⟨some e, by simp, by rw [z]; simp⟩
      · exact ⟨none, by simp, fun h => z h.symm⟩
    obtain ⟨o, ho, h2⟩ := this
    have : o ∈ spotsO M.dots e x (look tk x) := by
      refine List.mem_filter.mpr ⟨List.mem_append_right _ ho, ?_⟩
      have h3 : o ≠ some x := by
        rcases List.mem_cons.mp ho with rfl | ho
        · simpa using Ne.symm hxe
        · rw [List.mem_singleton.mp ho]; simp
      simp [h3, h2]
    exact List.length_pos_of_mem this
  have hsl : (spotsO M.dots e x (look tk x)).length ≤ 8 := by
    have := List.length_filter_le (fun o => !decide (o ∈ [some x, look tk x])) (M.dots.map some ++ [some e, none])
    rw [List.length_append, List.length_map] at this
    show (List.filter _ _).length ≤ 8
    simp at this ⊢; omega
  obtain ⟨y, rd, hy, q4⟩ := pick_O hT hne (by omega) rc
  obtain ⟨hy1, hy2⟩ := List.mem_filter.mp hy
  have hy2 : y ≠ some x ∧ y ≠ look tk x := by simpa using hy2
  have hpl : PlaceOk M.dots e x y := by
    rcases List.mem_append.mp hy1 with h | h
    · obtain ⟨z, hz, rfl⟩ := List.mem_map.mp h
      exact .inr (.inr ⟨z, rfl, hz, fun q => hy2.1 (by rw [q])⟩)
    · rcases List.mem_cons.mp h with rfl | h
      · exact .inr (.inl rfl)
      · rw [List.mem_singleton.mp h]; exact .inl rfl
  refine ⟨e, p, x, b, y, rd, hp, hx, hpl, ?_⟩
  have hi : idxD (dT dP M.rows) (.str e) = some (.sh (dP p)) := idx_dT dP (lookup_of_mem hM.rn hp)
  have hlen1 : p.1.length = M.dots.length := tab_len ht1
  have hlen2 : p.2.length = M.dots.length := tab_len ht2
  have hxk1 : x ∈ p.1.map (·.1) := ht1.1.mem_iff.mpr hx
  have hxk2 : x ∈ p.2.map (·.1) := ht2.1.mem_iff.mpr hx
  have hcur : idxD (dT dO tk) (.str x) = some (.sh (dO (look tk x))) := idx_dT dO hlk
  have hput1 : putE (p.1.map fun q => (D.str q.1, dO q.2)) (.str x) (dO y) = (putT p.1 x y).map fun q => (D.str q.1, dO q.2) := put_dT dO p.1 x y
  have hput2 : putE (p.2.map fun q => (D.str q.1, dO q.2)) (.str x) (dO y) = (putT p.2 x y).map fun q => (D.str q.1, dO q.2) := put_dT dO p.2 x y
  have hputR : putE (M.rows.map fun q => (D.str q.1, dP q.2)) (.str e) (dP (wayP b x y p)) = (wayR e x b y M.rows).map fun q => (D.str q.1, dP q.2) := by
    rw [put_dT dP M.rows e (wayP b x y p), put_wayR hM.rn hp]
  have hnew : ∀ t : Tab, x ∈ t.map (·.1) → idxD (dT dO (putT t x y)) (.str x) = some (.sh (dO y)) := fun t ht => by
    have h1 : x ∈ (putT t x y).map (·.1) := by rw [putT_keys ht]; exact ht
    obtain ⟨v, hv⟩ := Option.isSome_iff_exists.mp (look_some.mp h1)
    have h2 := look_put ht y x
    unfold look at h2
    rw [hv, if_pos rfl] at h2
    have h2 : v = y := h2
    subst h2; exact idx_dT dO hv
  have hkk : k = 0 ∨ k = 1 := by omega
  have hlist : idxD (.lst [dT dO p.1, dT dO p.2]) (.int k) = some (.sh (dT dO tk)) := by
    rcases hkk with rfl | rfl
    · rfl
    · rfl
  unfold f__law_other m__law_other
  generalize hL : mLc [9] _ _ _ _ = L
  have eL : L ⟨[some ⟨.res, false⟩, some ⟨dMod M, false⟩, some ⟨dMod M, false⟩, some ⟨.str e, false⟩, some ⟨.str x, false⟩, some ⟨.int (k : Int), false⟩, some ⟨.lst [dT dO p.1, dT dO p.2], false⟩, none, none, none], rc⟩ = some (.tmp (.lst ((spotsO M.dots e x (look tk x)).map dO)), ⟨[some ⟨.res, false⟩, some ⟨dMod M, false⟩, some ⟨dMod M, false⟩, some ⟨.str e, false⟩, some ⟨.str x, false⟩, some ⟨.int (k : Int), false⟩, some ⟨.lst [dT dO p.1, dT dO p.2], false⟩, none, none, none], rc⟩) := by
    rw [← hL]
    refine mLc_enc dO (fun o => !decide (o ∈ [some x, look tk x])) dO (M.dots.map some ++ [some e, none]) ?_ (by rfl) (fun o ho => ?_) (by rw [List.length_append, List.length_map]; unfold sizeLine; simp; omega)
    · have hadd : addD (.lst (dS M.dots)) (.lst [.str e, .non]) = some (.tmp (.lst ((M.dots.map some ++ [some e, none]).map dO))) := by
        have h2 : M.dots.length + 2 ≤ sizeLine := by unfold sizeLine; omega
        simp [addD, h2, dS, dO, Function.comp_def]
      generalize (M.dots.map some ++ [some e, none]).map dO = zz at *
      have hi2 := idx_m2 M
      generalize dMod M = dm at *
      generalize [dT dO p.1, dT dO p.2] = rr at *
      generalize dS M.dots = dd at *
      simp [fnM, fnR, ent, mSeq, mSet, mV, mC, mOp1, mOp2, mChain, mAnd, mOr, mNot, mIf, mArgs, escAll, esc, soft, pk, hard, put, puts, mHards, mPar, mTup, mLst, mDct0, mCall, mRest, mRt, mRtN, mNx, mEx, mIte, mMut, mPut, mIt, bindT, bindTs, isAtom, isLst, isDK, plainAt, wipeE, backE, mFor, mLc, mDc, mWhile, mBk, mCt, mNo, mSl, mNoP, mPt, mJoin, mRng1, mRng2, mZip, mCallK, pickL, mMeth, mProp, mMake, mFld, fnI, fnIR, mDisp, mPairs, o2I, gtI, geI, leI, mStar, mStarT, mStarL, mAugI, mIndex, hi2, hadd, itemsOf]
    · have h1 := in_lstO o [some x, look tk x]
      have h1 : inB (dO o) (.lst [.str x, dO (look tk x)]) = some (decide (o ∈ [some x, look tk x])) := h1
      generalize decide (o ∈ [some x, look tk x]) = bb at *
      generalize dO (look tk x) = dc at *
      generalize dMod M = dm at *
      generalize hrr : [dT dO p.1, dT dO p.2] = rr at *
      generalize dT dO tk = tt at *
      cases o <;> simp only [dO] at h1 ⊢ <;> simp [fnM, fnR, ent, mSeq, mSet, mV, mC, mOp1, mOp2, mChain, mAnd, mOr, mNot, mIf, mArgs, escAll, esc, soft, pk, hard, put, puts, mHards, mPar, mTup, mLst, mDct0, mCall, mRest, mRt, mRtN, mNx, mEx, mIte, mMut, mPut, mIt, bindT, bindTs, isAtom, isLst, isDK, plainAt, wipeE, backE, mFor, mLc, mDc, mWhile, mBk, mCt, mNo, mSl, mNoP, mPt, mJoin, mRng1, mRng2, mZip, mCallK, pickL, mMeth, mProp, mMake, mFld, fnI, fnIR, mDisp, mPairs, o2I, gtI, geI, leI, mStar, mStarT, mStarL, mAugI, mIndex, hlist, hcur, ninD, h1]
  rcases hkk with rfl | rfl
  · have hb : b = false := rfl
    have htk' : tk = p.1 := rfl
    rw [htk'] at eL q4 hne hsl
    have q3 : T [.res, .int 2] rb = some (.sh (.int 0), rc) := q3
    generalize hsp : spotsO M.dots e x (look p.1 x) = sp at *
    have eL : L ⟨[some ⟨.res, false⟩, some ⟨dMod M, false⟩, some ⟨dMod M, false⟩, some ⟨.str e, false⟩, some ⟨.str x, false⟩, some ⟨.int 0, false⟩, some ⟨.lst [dT dO p.1, dT dO p.2], false⟩, none, none, none], rc⟩ = some (.tmp (.lst (sp.map dO)), ⟨[some ⟨.res, false⟩, some ⟨dMod M, false⟩, some ⟨dMod M, false⟩, some ⟨.str e, false⟩, some ⟨.str x, false⟩, some ⟨.int 0, false⟩, some ⟨.lst [dT dO p.1, dT dO p.2], false⟩, none, none, none], rc⟩) := eL
    have eG : mLcG [8] (mIt itemsOf (mOp2 idxD (mOp2 idxD (mV 1) (mC (.str "tables"))) (mV 3))) (.nm 8) (mOp1 dictD (mV 8)) (⟨[some ⟨.res, false⟩, some ⟨dMod M, false⟩, some ⟨dMod M, true⟩, some ⟨.str e, false⟩, some ⟨.str x, false⟩, some ⟨.int 0, false⟩, none, none, none, none], rc⟩ : S R) = some ([dT dO p.1, dT dO p.2], ⟨[some ⟨.res, false⟩, some ⟨dMod M, false⟩, some ⟨dMod M, true⟩, some ⟨.str e, false⟩, some ⟨.str x, false⟩, some ⟨.int 0, false⟩, none, none, none, none], rc⟩) := by
      have h1 := idx_m1 M
      have hd1 : dictD (dT dO p.1) = some (.tmp (dT dO p.1)) := rfl
      have hd2 : dictD (dT dO p.2) = some (.tmp (dT dO p.2)) := rfl
      have hit : itemsOf (dP p) = some [dT dO p.1, dT dO p.2] := rfl
      generalize dMod M = dm at *
      generalize dT dO p.1 = u1 at *
      generalize dT dO p.2 = u2 at *
      simp [mLcG, lcG, fnM, fnR, ent, mSeq, mSet, mV, mC, mOp1, mOp2, mChain, mAnd, mOr, mNot, mIf, mArgs, escAll, esc, soft, pk, hard, put, puts, mHards, mPar, mTup, mLst, mDct0, mCall, mRest, mRt, mRtN, mNx, mEx, mIte, mMut, mPut, mIt, bindT, bindTs, isAtom, isLst, isDK, plainAt, wipeE, backE, mFor, mLc, mDc, mWhile, mBk, mCt, mNo, mSl, mNoP, mPt, mJoin, mRng1, mRng2, mZip, mCallK, pickL, mMeth, mProp, mMake, mFld, fnI, fnIR, mDisp, mPairs, o2I, gtI, geI, leI, mStar, mStarT, mStarL, mAugI, mIndex, h1, hi, hit, hd1, hd2, sizeLine]
    have e3 : mCall (f__law_pick T) (mArgs [mV 0, mV 7]) (⟨[some ⟨.res, false⟩, some ⟨dMod M, false⟩, some ⟨dMod M, true⟩, some ⟨.str e, false⟩, some ⟨.str x, false⟩, some ⟨.int 0, false⟩, none, some ⟨.lst (sp.map dO), true⟩, none, none], rc⟩ : S R) = some (.sh (dO y), ⟨[some ⟨.res, false⟩, some ⟨dMod M, false⟩, some ⟨dMod M, true⟩, some ⟨.str e, false⟩, some ⟨.str x, false⟩, some ⟨.int 0, false⟩, none, some ⟨.lst (sp.map dO), true⟩, none, none], rd⟩) := by
      have ha := dO_atom y
      generalize dMod M = dm at *
      generalize sp.map dO = dsp at *
      cases y <;> simp only [dO] at q4 ⊢ <;> simp [fnM, fnR, ent, mSeq, mSet, mV, mC, mOp1, mOp2, mChain, mAnd, mOr, mNot, mIf, mArgs, escAll, esc, soft, pk, hard, put, puts, mHards, mPar, mTup, mLst, mDct0, mCall, mRest, mRt, mRtN, mNx, mEx, mIte, mMut, mPut, mIt, bindT, bindTs, isAtom, isLst, isDK, plainAt, wipeE, backE, mFor, mLc, mDc, mWhile, mBk, mCt, mNo, mSl, mNoP, mPt, mJoin, mRng1, mRng2, mZip, mCallK, pickL, mMeth, mProp, mMake, mFld, fnI, fnIR, mDisp, mPairs, o2I, gtI, geI, leI, mStar, mStarT, mStarL, mAugI, mIndex, q4]
    have eR : mRows 6 7 5 4 [8] (mIt itemsOf (mOp2 idxD (mOp2 idxD (mV 1) (mC (.str "tables"))) (mV 3))) (.nm 8) (mOp1 dictD (mV 8)) L (mCall (f__law_pick T) (mArgs [mV 0, mV 7])) (⟨[some ⟨.res, false⟩, some ⟨dMod M, false⟩, some ⟨dMod M, true⟩, some ⟨.str e, false⟩, some ⟨.str x, false⟩, some ⟨.int 0, false⟩, none, none, none, none], rc⟩ : S R) = some (.nx, ⟨[some ⟨.res, false⟩, some ⟨dMod M, false⟩, some ⟨dMod M, true⟩, some ⟨.str e, false⟩, some ⟨.str x, false⟩, some ⟨.int 0, false⟩, some ⟨.lst [dT dO (wayP b x y p).1, dT dO (wayP b x y p).2], false⟩, some ⟨.lst (sp.map dO), true⟩, none, none], rd⟩) := by
      unfold mRows
      rw [if_pos ⟨by simp, by simp, by decide⟩, eG]
      show ((L ⟨[some ⟨.res, false⟩, some ⟨dMod M, false⟩, some ⟨dMod M, false⟩, some ⟨.str e, false⟩, some ⟨.str x, false⟩, some ⟨.int 0, false⟩, some ⟨.lst [dT dO p.1, dT dO p.2], false⟩, none, none, none], rc⟩).bind _ : Option (Fl × S R)) = _
      rw [eL]
      have hat : (sp.map dO).all atomD = true := by
        rw [List.all_eq_true]
        intro d hd
        obtain ⟨o, _, rfl⟩ := List.mem_map.mp hd
        cases o <;> rfl
      show (if (sp.map dO).all atomD = true then ((mCall (f__law_pick T) (mArgs [mV 0, mV 7]) ⟨[some ⟨.res, false⟩, some ⟨dMod M, false⟩, some ⟨dMod M, true⟩, some ⟨.str e, false⟩, some ⟨.str x, false⟩, some ⟨.int 0, false⟩, none, some ⟨.lst (sp.map dO), true⟩, none, none], rc⟩).bind _ : Option (Fl × S R)) else none) = _
      rw [if_pos hat, e3]
      show rowPut 6 5 4 [dT dO p.1, dT dO p.2] (dO y, ⟨[some ⟨.res, false⟩, some ⟨dMod M, false⟩, some ⟨dMod M, true⟩, some ⟨.str e, false⟩, some ⟨.str x, false⟩, some ⟨.int 0, false⟩, none, some ⟨.lst (sp.map dO), true⟩, none, none], rd⟩) = _
      show (if (p.1.map fun q => (D.str q.1, dO q.2)).length < sizeLine then _ else none) = _
      rw [if_pos (by rw [List.length_map, hlen1]; unfold sizeLine; omega), hput1]
      rfl
    have eP : mPutP 2 3 "tables" (mOp1 dictD (mOp2 idxD (mV 1) (mC (.str "tables")))) (mOp1 tup1 (mV 6)) (⟨[some ⟨.res, false⟩, some ⟨dMod M, false⟩, some ⟨dMod M, true⟩, some ⟨.str e, false⟩, some ⟨.str x, false⟩, some ⟨.int 0, false⟩, some ⟨.lst [dT dO (wayP b x y p).1, dT dO (wayP b x y p).2], false⟩, some ⟨.lst (sp.map dO), true⟩, none, none], rd⟩ : S R) = some (.nx, ⟨[some ⟨.res, false⟩, some ⟨dMod M, false⟩, some ⟨dMod (wayM M e x b y), true⟩, some ⟨.str e, false⟩, some ⟨.str x, false⟩, some ⟨.int 0, false⟩, some ⟨.lst [dT dO (wayP b x y p).1, dT dO (wayP b x y p).2], false⟩, some ⟨.lst (sp.map dO), true⟩, none, none], rd⟩) := by
      have e4 : mOp1 dictD (mOp2 idxD (mV 1) (mC (.str "tables"))) (⟨[some ⟨.res, false⟩, some ⟨dMod M, false⟩, some ⟨dMod M, true⟩, some ⟨.str e, false⟩, some ⟨.str x, false⟩, some ⟨.int 0, false⟩, some ⟨.lst [dT dO (wayP b x y p).1, dT dO (wayP b x y p).2], false⟩, some ⟨.lst (sp.map dO), true⟩, none, none], rd⟩ : S R) = some (.tmp (dT dP M.rows), ⟨[some ⟨.res, false⟩, some ⟨dMod M, false⟩, some ⟨dMod M, true⟩, some ⟨.str e, false⟩, some ⟨.str x, false⟩, some ⟨.int 0, false⟩, some ⟨.lst [dT dO (wayP b x y p).1, dT dO (wayP b x y p).2], false⟩, some ⟨.lst (sp.map dO), true⟩, none, none], rd⟩) := by
        have h1 := idx_m1 M
        have hd1 : dictD (dT dP M.rows) = some (.tmp (dT dP M.rows)) := rfl
        generalize dMod M = dm at *
        generalize dT dP M.rows = u1 at *
        simp [fnM, fnR, ent, mSeq, mSet, mV, mC, mOp1, mOp2, mChain, mAnd, mOr, mNot, mIf, mArgs, escAll, esc, soft, pk, hard, put, puts, mHards, mPar, mTup, mLst, mDct0, mCall, mRest, mRt, mRtN, mNx, mEx, mIte, mMut, mPut, mIt, bindT, bindTs, isAtom, isLst, isDK, plainAt, wipeE, backE, mFor, mLc, mDc, mWhile, mBk, mCt, mNo, mSl, mNoP, mPt, mJoin, mRng1, mRng2, mZip, mCallK, pickL, mMeth, mProp, mMake, mFld, fnI, fnIR, mDisp, mPairs, o2I, gtI, geI, leI, mStar, mStarT, mStarL, mAugI, mIndex, h1, hd1]
      unfold mPutP
      rw [e4]
      show (if (M.rows.map fun q => (D.str q.1, dP q.2)).length < sizeLine ∧ 4 < sizeLine then some (Fl.nx, (⟨[some ⟨.res, false⟩, some ⟨dMod M, false⟩, some ⟨.dct false (putE [(.str "tables", dT dP M.rows), (.str "dots", .lst (dS M.dots)), (.str "sources", .lst (dS M.sources)), (.str "posts", .lst (dS M.posts))] (.str "tables") (.dct false (putE (M.rows.map fun q => (D.str q.1, dP q.2)) (.str e) (dP (wayP b x y p))))), true⟩, some ⟨.str e, false⟩, some ⟨.str x, false⟩, some ⟨.int 0, false⟩, some ⟨.lst [dT dO (wayP b x y p).1, dT dO (wayP b x y p).2], false⟩, some ⟨.lst (sp.map dO), true⟩, none, none], rd⟩ : S R)) else none) = _
      rw [if_pos ⟨by rw [List.length_map]; unfold sizeLine; omega, by unfold sizeLine; omega⟩, hputR]
      rfl
    have hold : idxD (.lst [dT dO (wayP b x y p).1, dT dO (wayP b x y p).2]) (.int 0) = some (.sh (dT dO (putT p.1 x y))) := rfl
    have hnw := hnew p.1 hxk1
    have heq : eqD (.int 0) (.int 1) = some (.sh (.bl b)) := by rw [hb, eq_int']; rfl
    have hdm : dictD (dMod M) = some (.tmp (dMod M)) := rfl
    have hi1 := idx_m1 M
    have hi2 := idx_m2 M
    have hya := dO_atom y
    generalize mRows 6 7 5 4 [8] _ _ _ _ _ = RW1 at *
    generalize mPutP 2 3 "tables" _ _ = PW1 at *
    generalize dMod (wayM M e x b y) = dm2 at *
    generalize dMod M = dm at *
    generalize dS M.dots = dd at *
    generalize dS (M.rows.map (·.1)) = dn at *
    generalize dT dP M.rows = du at *
    generalize [dT dO (wayP b x y p).1, dT dO (wayP b x y p).2] = ll at *
    generalize sp.map dO = dsp at *
    generalize dT dO (putT p.1 x y) = dpt at *
    have q1 : f__law_pick T [.res, .lst dn] r = some (.sh (.str e), ra) := q1
    generalize hbb : b = bb at *
    cases y <;> simp only [dO] at hnw ⊢ <;> simp [fnM, fnR, ent, mSeq, mSet, mV, mC, mOp1, mOp2, mChain, mAnd, mOr, mNot, mIf, mArgs, escAll, esc, soft, pk, hard, put, puts, mHards, mPar, mTup, mLst, mDct0, mCall, mRest, mRt, mRtN, mNx, mEx, mIte, mMut, mPut, mIt, bindT, bindTs, isAtom, isLst, isDK, plainAt, wipeE, backE, mFor, mLc, mDc, mWhile, mBk, mCt, mNo, mSl, mNoP, mPt, mJoin, mRng1, mRng2, mZip, mCallK, pickL, mMeth, mProp, mMake, mFld, fnI, fnIR, mDisp, mPairs, o2I, gtI, geI, leI, mStar, mStarT, mStarL, mAugI, mIndex, List.replicate, hdm, hi1, hi2, hs, q1, q2, q3, eR, eP, heq, hold, hnw]
  · have hb : b = true := rfl
    have htk' : tk = p.2 := rfl
    rw [htk'] at eL q4 hne hsl
    have q3 : T [.res, .int 2] rb = some (.sh (.int 1), rc) := q3
    generalize hsp : spotsO M.dots e x (look p.2 x) = sp at *
    have eL : L ⟨[some ⟨.res, false⟩, some ⟨dMod M, false⟩, some ⟨dMod M, false⟩, some ⟨.str e, false⟩, some ⟨.str x, false⟩, some ⟨.int 1, false⟩, some ⟨.lst [dT dO p.1, dT dO p.2], false⟩, none, none, none], rc⟩ = some (.tmp (.lst (sp.map dO)), ⟨[some ⟨.res, false⟩, some ⟨dMod M, false⟩, some ⟨dMod M, false⟩, some ⟨.str e, false⟩, some ⟨.str x, false⟩, some ⟨.int 1, false⟩, some ⟨.lst [dT dO p.1, dT dO p.2], false⟩, none, none, none], rc⟩) := eL
    have eG : mLcG [8] (mIt itemsOf (mOp2 idxD (mOp2 idxD (mV 1) (mC (.str "tables"))) (mV 3))) (.nm 8) (mOp1 dictD (mV 8)) (⟨[some ⟨.res, false⟩, some ⟨dMod M, false⟩, some ⟨dMod M, true⟩, some ⟨.str e, false⟩, some ⟨.str x, false⟩, some ⟨.int 1, false⟩, none, none, none, none], rc⟩ : S R) = some ([dT dO p.1, dT dO p.2], ⟨[some ⟨.res, false⟩, some ⟨dMod M, false⟩, some ⟨dMod M, true⟩, some ⟨.str e, false⟩, some ⟨.str x, false⟩, some ⟨.int 1, false⟩, none, none, none, none], rc⟩) := by
      have h1 := idx_m1 M
      have hd1 : dictD (dT dO p.1) = some (.tmp (dT dO p.1)) := rfl
      have hd2 : dictD (dT dO p.2) = some (.tmp (dT dO p.2)) := rfl
      have hit : itemsOf (dP p) = some [dT dO p.1, dT dO p.2] := rfl
      generalize dMod M = dm at *
      generalize dT dO p.1 = u1 at *
      generalize dT dO p.2 = u2 at *
      simp [mLcG, lcG, fnM, fnR, ent, mSeq, mSet, mV, mC, mOp1, mOp2, mChain, mAnd, mOr, mNot, mIf, mArgs, escAll, esc, soft, pk, hard, put, puts, mHards, mPar, mTup, mLst, mDct0, mCall, mRest, mRt, mRtN, mNx, mEx, mIte, mMut, mPut, mIt, bindT, bindTs, isAtom, isLst, isDK, plainAt, wipeE, backE, mFor, mLc, mDc, mWhile, mBk, mCt, mNo, mSl, mNoP, mPt, mJoin, mRng1, mRng2, mZip, mCallK, pickL, mMeth, mProp, mMake, mFld, fnI, fnIR, mDisp, mPairs, o2I, gtI, geI, leI, mStar, mStarT, mStarL, mAugI, mIndex, h1, hi, hit, hd1, hd2, sizeLine]
    have e3 : mCall (f__law_pick T) (mArgs [mV 0, mV 7]) (⟨[some ⟨.res, false⟩, some ⟨dMod M, false⟩, some ⟨dMod M, true⟩, some ⟨.str e, false⟩, some ⟨.str x, false⟩, some ⟨.int 1, false⟩, none, some ⟨.lst (sp.map dO), true⟩, none, none], rc⟩ : S R) = some (.sh (dO y), ⟨[some ⟨.res, false⟩, some ⟨dMod M, false⟩, some ⟨dMod M, true⟩, some ⟨.str e, false⟩, some ⟨.str x, false⟩, some ⟨.int 1, false⟩, none, some ⟨.lst (sp.map dO), true⟩, none, none], rd⟩) := by
      have ha := dO_atom y
      generalize dMod M = dm at *
      generalize sp.map dO = dsp at *
      cases y <;> simp only [dO] at q4 ⊢ <;> simp [fnM, fnR, ent, mSeq, mSet, mV, mC, mOp1, mOp2, mChain, mAnd, mOr, mNot, mIf, mArgs, escAll, esc, soft, pk, hard, put, puts, mHards, mPar, mTup, mLst, mDct0, mCall, mRest, mRt, mRtN, mNx, mEx, mIte, mMut, mPut, mIt, bindT, bindTs, isAtom, isLst, isDK, plainAt, wipeE, backE, mFor, mLc, mDc, mWhile, mBk, mCt, mNo, mSl, mNoP, mPt, mJoin, mRng1, mRng2, mZip, mCallK, pickL, mMeth, mProp, mMake, mFld, fnI, fnIR, mDisp, mPairs, o2I, gtI, geI, leI, mStar, mStarT, mStarL, mAugI, mIndex, q4]
    have eR : mRows 6 7 5 4 [8] (mIt itemsOf (mOp2 idxD (mOp2 idxD (mV 1) (mC (.str "tables"))) (mV 3))) (.nm 8) (mOp1 dictD (mV 8)) L (mCall (f__law_pick T) (mArgs [mV 0, mV 7])) (⟨[some ⟨.res, false⟩, some ⟨dMod M, false⟩, some ⟨dMod M, true⟩, some ⟨.str e, false⟩, some ⟨.str x, false⟩, some ⟨.int 1, false⟩, none, none, none, none], rc⟩ : S R) = some (.nx, ⟨[some ⟨.res, false⟩, some ⟨dMod M, false⟩, some ⟨dMod M, true⟩, some ⟨.str e, false⟩, some ⟨.str x, false⟩, some ⟨.int 1, false⟩, some ⟨.lst [dT dO (wayP b x y p).1, dT dO (wayP b x y p).2], false⟩, some ⟨.lst (sp.map dO), true⟩, none, none], rd⟩) := by
      unfold mRows
      rw [if_pos ⟨by simp, by simp, by decide⟩, eG]
      show ((L ⟨[some ⟨.res, false⟩, some ⟨dMod M, false⟩, some ⟨dMod M, false⟩, some ⟨.str e, false⟩, some ⟨.str x, false⟩, some ⟨.int 1, false⟩, some ⟨.lst [dT dO p.1, dT dO p.2], false⟩, none, none, none], rc⟩).bind _ : Option (Fl × S R)) = _
      rw [eL]
      have hat : (sp.map dO).all atomD = true := by
        rw [List.all_eq_true]
        intro d hd
        obtain ⟨o, _, rfl⟩ := List.mem_map.mp hd
        cases o <;> rfl
      show (if (sp.map dO).all atomD = true then ((mCall (f__law_pick T) (mArgs [mV 0, mV 7]) ⟨[some ⟨.res, false⟩, some ⟨dMod M, false⟩, some ⟨dMod M, true⟩, some ⟨.str e, false⟩, some ⟨.str x, false⟩, some ⟨.int 1, false⟩, none, some ⟨.lst (sp.map dO), true⟩, none, none], rc⟩).bind _ : Option (Fl × S R)) else none) = _
      rw [if_pos hat, e3]
      show rowPut 6 5 4 [dT dO p.1, dT dO p.2] (dO y, ⟨[some ⟨.res, false⟩, some ⟨dMod M, false⟩, some ⟨dMod M, true⟩, some ⟨.str e, false⟩, some ⟨.str x, false⟩, some ⟨.int 1, false⟩, none, some ⟨.lst (sp.map dO), true⟩, none, none], rd⟩) = _
      show (if (p.2.map fun q => (D.str q.1, dO q.2)).length < sizeLine then _ else none) = _
      rw [if_pos (by rw [List.length_map, hlen2]; unfold sizeLine; omega), hput2]
      rfl
    have eP : mPutP 2 3 "tables" (mOp1 dictD (mOp2 idxD (mV 1) (mC (.str "tables")))) (mOp1 tup1 (mV 6)) (⟨[some ⟨.res, false⟩, some ⟨dMod M, false⟩, some ⟨dMod M, true⟩, some ⟨.str e, false⟩, some ⟨.str x, false⟩, some ⟨.int 1, false⟩, some ⟨.lst [dT dO (wayP b x y p).1, dT dO (wayP b x y p).2], false⟩, some ⟨.lst (sp.map dO), true⟩, none, none], rd⟩ : S R) = some (.nx, ⟨[some ⟨.res, false⟩, some ⟨dMod M, false⟩, some ⟨dMod (wayM M e x b y), true⟩, some ⟨.str e, false⟩, some ⟨.str x, false⟩, some ⟨.int 1, false⟩, some ⟨.lst [dT dO (wayP b x y p).1, dT dO (wayP b x y p).2], false⟩, some ⟨.lst (sp.map dO), true⟩, none, none], rd⟩) := by
      have e4 : mOp1 dictD (mOp2 idxD (mV 1) (mC (.str "tables"))) (⟨[some ⟨.res, false⟩, some ⟨dMod M, false⟩, some ⟨dMod M, true⟩, some ⟨.str e, false⟩, some ⟨.str x, false⟩, some ⟨.int 1, false⟩, some ⟨.lst [dT dO (wayP b x y p).1, dT dO (wayP b x y p).2], false⟩, some ⟨.lst (sp.map dO), true⟩, none, none], rd⟩ : S R) = some (.tmp (dT dP M.rows), ⟨[some ⟨.res, false⟩, some ⟨dMod M, false⟩, some ⟨dMod M, true⟩, some ⟨.str e, false⟩, some ⟨.str x, false⟩, some ⟨.int 1, false⟩, some ⟨.lst [dT dO (wayP b x y p).1, dT dO (wayP b x y p).2], false⟩, some ⟨.lst (sp.map dO), true⟩, none, none], rd⟩) := by
        have h1 := idx_m1 M
        have hd1 : dictD (dT dP M.rows) = some (.tmp (dT dP M.rows)) := rfl
        generalize dMod M = dm at *
        generalize dT dP M.rows = u1 at *
        simp [fnM, fnR, ent, mSeq, mSet, mV, mC, mOp1, mOp2, mChain, mAnd, mOr, mNot, mIf, mArgs, escAll, esc, soft, pk, hard, put, puts, mHards, mPar, mTup, mLst, mDct0, mCall, mRest, mRt, mRtN, mNx, mEx, mIte, mMut, mPut, mIt, bindT, bindTs, isAtom, isLst, isDK, plainAt, wipeE, backE, mFor, mLc, mDc, mWhile, mBk, mCt, mNo, mSl, mNoP, mPt, mJoin, mRng1, mRng2, mZip, mCallK, pickL, mMeth, mProp, mMake, mFld, fnI, fnIR, mDisp, mPairs, o2I, gtI, geI, leI, mStar, mStarT, mStarL, mAugI, mIndex, h1, hd1]
      unfold mPutP
      rw [e4]
      show (if (M.rows.map fun q => (D.str q.1, dP q.2)).length < sizeLine ∧ 4 < sizeLine then some (Fl.nx, (⟨[some ⟨.res, false⟩, some ⟨dMod M, false⟩, some ⟨.dct false (putE [(.str "tables", dT dP M.rows), (.str "dots", .lst (dS M.dots)), (.str "sources", .lst (dS M.sources)), (.str "posts", .lst (dS M.posts))] (.str "tables") (.dct false (putE (M.rows.map fun q => (D.str q.1, dP q.2)) (.str e) (dP (wayP b x y p))))), true⟩, some ⟨.str e, false⟩, some ⟨.str x, false⟩, some ⟨.int 1, false⟩, some ⟨.lst [dT dO (wayP b x y p).1, dT dO (wayP b x y p).2], false⟩, some ⟨.lst (sp.map dO), true⟩, none, none], rd⟩ : S R)) else none) = _
      rw [if_pos ⟨by rw [List.length_map]; unfold sizeLine; omega, by unfold sizeLine; omega⟩, hputR]
      rfl
    have hold : idxD (.lst [dT dO (wayP b x y p).1, dT dO (wayP b x y p).2]) (.int 1) = some (.sh (dT dO (putT p.2 x y))) := rfl
    have hnw := hnew p.2 hxk2
    have heq : eqD (.int 1) (.int 1) = some (.sh (.bl b)) := by rw [hb, eq_int']; rfl
    have hdm : dictD (dMod M) = some (.tmp (dMod M)) := rfl
    have hi1 := idx_m1 M
    have hi2 := idx_m2 M
    have hya := dO_atom y
    generalize mRows 6 7 5 4 [8] _ _ _ _ _ = RW1 at *
    generalize mPutP 2 3 "tables" _ _ = PW1 at *
    generalize dMod (wayM M e x b y) = dm2 at *
    generalize dMod M = dm at *
    generalize dS M.dots = dd at *
    generalize dS (M.rows.map (·.1)) = dn at *
    generalize dT dP M.rows = du at *
    generalize [dT dO (wayP b x y p).1, dT dO (wayP b x y p).2] = ll at *
    generalize sp.map dO = dsp at *
    generalize dT dO (putT p.2 x y) = dpt at *
    have q1 : f__law_pick T [.res, .lst dn] r = some (.sh (.str e), ra) := q1
    generalize hbb : b = bb at *
    cases y <;> simp only [dO] at hnw ⊢ <;> simp [fnM, fnR, ent, mSeq, mSet, mV, mC, mOp1, mOp2, mChain, mAnd, mOr, mNot, mIf, mArgs, escAll, esc, soft, pk, hard, put, puts, mHards, mPar, mTup, mLst, mDct0, mCall, mRest, mRt, mRtN, mNx, mEx, mIte, mMut, mPut, mIt, bindT, bindTs, isAtom, isLst, isDK, plainAt, wipeE, backE, mFor, mLc, mDc, mWhile, mBk, mCt, mNo, mSl, mNoP, mPt, mJoin, mRng1, mRng2, mZip, mCallK, pickL, mMeth, mProp, mMake, mFld, fnI, fnIR, mDisp, mPairs, o2I, gtI, geI, leI, mStar, mStarT, mStarL, mAugI, mIndex, List.replicate, hdm, hi1, hi2, hs, q1, q2, q3, eR, eP, heq, hold, hnw]
end
end RW
namespace RW
open PySem L2 Gr
/-! ### a model at the bounds -/
instance (xs : List Str) : Decidable (Up xs) := by unfold Up; exact inferInstance
end RW
namespace RW
open PySem L2 Gr
/-! ### lines that are turned about -/
structure Line (e : Str) (row : List Str) : Prop where
  nd : (e :: row).Nodup
  nm : ∀ x ∈ e :: row, isName x
  l2 : 2 ≤ row.length
  l6 : row.length ≤ 6
section
variable {e : Str} {row : List Str} (h : Line e row)
include h
theorem Line.rn : row.Nodup := (List.nodup_cons.mp h.nd).2
end
end RW
namespace RW
open PySem L2 Gr
/-! ### depths -/
def goD (t : Tab) : Nat → Option Str → Nat → Option Str × Nat
  | 0, p, m => (p, m)
  | f + 1, none, m => (none, m)
  | f + 1, some x, m => if x ∈ t.map (·.1) then goD t f (look t x) (m + 1) else (some x, m)
def dpt (t : Tab) (g x : Str) : Option Nat := if (goD t (t.length + 1) (some x) 0).1 = some g then some (goD t (t.length + 1) (some x) 0).2 else none
end RW
namespace Gr
/-! rows of numbers that differ by one from each to the next -/
end Gr
namespace RW
open PySem L2 Gr
/-! ### rows in order -/
theorem eq_lst_nil (xs : List D) : eqD (.lst xs) (.lst []) = some (.sh (.bl (decide (xs = [])))) := by simp [eqD, deq_lst_nil]
/-! ### rings and steps -/
end RW
namespace RW
open PySem L2 Gr
/-! ### the law k06 -/
theorem look_nameV {M : Mod} (hM : ModOk M) {e : Str} {p : Tab × Tab} (hp : (e, p) ∈ M.rows) {x : Str} (hx : x ∈ M.dots) : (∀ y, look p.1 x = some y → isName y) ∧ ∀ y, look p.2 x = some y → isName y := by
  obtain ⟨ht1, ht2⟩ := hM.tab _ hp
  have key : ∀ t : Tab, TabOk M.dots e t → ∀ y, look t x = some y → isName y := fun t ht y hy => by
    rcases (tab_look ht hx).2 with z | z | ⟨w, z, hw, _⟩
    · rw [hy] at z; cases z
    · rw [hy] at z; cases z; exact hM.rname _ hp
    · rw [hy] at z; cases z; exact hM.dname _ hw
  exact ⟨key p.1 ht1, key p.2 ht2⟩
theorem fit_webV {M : Mod} (hM : ModOk M) {e : Str} {p : Tab × Tab} (hp : (e, p) ∈ M.rows) (ready part : List Str) : Fit (dW (webOf M.dots p ready part)) 1000 2 := by
  have d2 := hM.d2
  have := fit_dT (f := dPl) (t := webOf M.dots p ready part) (n := 14) (k := 1) (fun q hq => by
    obtain ⟨x, hx, rfl⟩ := List.mem_map.mp hq
    exact hM.dname x hx) (fun q hq => by
    obtain ⟨x, hx, rfl⟩ := List.mem_map.mp hq
    obtain ⟨h1, h2⟩ := look_nameV hM hp hx
    have h3 : ∀ o ∈ spW p ready part x, ∀ y, o = some y → isName y := by
      intro o ho y hy
      subst hy
      unfold spW at ho
      split at ho
      · exact h2 y (List.mem_singleton.mp ho).symm
      · split at ho
        · rcases List.mem_cons.mp ho with z | z
          · exact h1 y z.symm
          · exact h2 y (List.mem_singleton.mp z).symm
        · exact h1 y (List.mem_singleton.mp ho).symm
    have h4 := fit_lst (ds := lO (spW p ready part x)) (n := 6) (k := 0) (fun d hd => by
      obtain ⟨o, ho, rfl⟩ := List.mem_map.mp hd
      exact fit_dO (h3 o ho))
    refine Fit.mono h4 ?_ (by omega)
    have := spW_two p ready part x
    have : (lO (spW p ready part x)).length ≤ 2 := by unfold lO; rw [List.length_map]; exact this
    omega) (by omega)
  refine this.mono ?_ (by omega)
  have : (webOf M.dots p ready part).length ≤ 6 := by unfold webOf; rw [List.length_map]; exact d2
  omega
theorem fit_ringV {M : Mod} (hM : ModOk M) {W : Web} (hk : kW W = M.dots) {o : Option (List Str)} (h : BestR W o) : Fit (dOR o) 100 1 := by
  have d2 := hM.d2
  cases o with
  | none => exact fit_non.mono (by omega) (by omega)
  | some q =>
    have hq := h.1
    have h1 := fit_tup (ds := dS q) (n := 6) (k := 0) (fit_dS fun x hx => hM.dname x (by rw [← hk]; exact hq.2 x hx))
    refine h1.mono ?_ (by omega)
    have := nodup_len hq.1.nd hq.2
    rw [hk] at this
    rw [dS_length]; omega
theorem head_due (ps : List (List Str)) : idxD (.lst (ps.map dR)) (.int 0) = (ps.head?).map fun p => .sh (dR p) := by
  cases ps with
  | nil => rfl
  | cons a ps =>
    have : atI (dR a :: ps.map dR) 0 = some (dR a) := by simp [atI, ixN]
    simp [idxD, idxS, this]
section
variable {R : Type} {T : Fm R}
theorem are_moving_ok {M : Mod} (hM : ModOk M) {l : List Str} (hl : l.length ≤ 100) (r : R) : f__law_are_moving T [dMod M, .tup (dS l)] r = some (.sh (.bl (decide ((l.filter fun x => !decide (x ∈ changing M)) = []))), r) := by
  have q1 := moving_ok (T := T) hM r
  unfold f__law_are_moving m__law_are_moving
  generalize hL : mLc _ _ _ _ _ = L
  have eL : L ⟨[some ⟨dMod M, false⟩, some ⟨.tup (dS l), false⟩, none], r⟩ = some (.tmp (.lst ((l.filter fun x => !decide (x ∈ changing M)).map D.str)), ⟨[some ⟨dMod M, false⟩, some ⟨.tup (dS l), false⟩, none], r⟩) := by
    rw [← hL]
    refine mLc_enc D.str (fun x => !decide (x ∈ changing M)) D.str l ?_ (by rfl) (fun x hx => ?_) (by unfold sizeLine; omega)
    · generalize dMod M = dm at *
      simp [fnM, fnR, ent, mSeq, mSet, mV, mC, mOp1, mOp2, mChain, mAnd, mOr, mNot, mIf, mArgs, escAll, esc, soft, pk, hard, put, puts, mHards, mPar, mTup, mLst, mDct0, mCall, mRest, mRt, mRtN, mNx, mEx, mIte, mMut, mPut, mIt, bindT, bindTs, isAtom, isLst, isDK, plainAt, wipeE, backE, mFor, mLc, mDc, mWhile, mBk, mCt, mNo, mSl, mNoP, mPt, mJoin, mRng1, mRng2, mZip, mCallK, pickL, mMeth, mProp, mMake, mFld, fnI, fnIR, mDisp, mPairs, o2I, gtI, geI, leI, mStar, mStarT, mStarL, mAugI, mIndex, itemsOf, dS]
    · have h1 := in_lst x (changing M)
      generalize dMod M = dm at *
      simp [fnM, fnR, ent, mSeq, mSet, mV, mC, mOp1, mOp2, mChain, mAnd, mOr, mNot, mIf, mArgs, escAll, esc, soft, pk, hard, put, puts, mHards, mPar, mTup, mLst, mDct0, mCall, mRest, mRt, mRtN, mNx, mEx, mIte, mMut, mPut, mIt, bindT, bindTs, isAtom, isLst, isDK, plainAt, wipeE, backE, mFor, mLc, mDc, mWhile, mBk, mCt, mNo, mSl, mNoP, mPt, mJoin, mRng1, mRng2, mZip, mCallK, pickL, mMeth, mProp, mMake, mFld, fnI, fnIR, mDisp, mPairs, o2I, gtI, geI, leI, mStar, mStarT, mStarL, mAugI, mIndex, q1, ninD, h1]
  have h2 := eq_lst_nil ((l.filter fun x => !decide (x ∈ changing M)).map D.str)
  have h3 : decide ((l.filter fun x => !decide (x ∈ changing M)).map D.str = []) = decide ((l.filter fun x => !decide (x ∈ changing M)) = []) := by
    rw [decide_eq_decide]; exact List.map_eq_nil_iff
  rw [h3] at h2
  generalize (l.filter fun x => !decide (x ∈ changing M)).map D.str = ll at *
  generalize dMod M = dm at *
  simp [fnM, fnR, ent, mSeq, mSet, mV, mC, mOp1, mOp2, mChain, mAnd, mOr, mNot, mIf, mArgs, escAll, esc, soft, pk, hard, put, puts, mHards, mPar, mTup, mLst, mDct0, mCall, mRest, mRt, mRtN, mNx, mEx, mIte, mMut, mPut, mIt, bindT, bindTs, isAtom, isLst, isDK, plainAt, wipeE, backE, mFor, mLc, mDc, mWhile, mBk, mCt, mNo, mSl, mNoP, mPt, mJoin, mRng1, mRng2, mZip, mCallK, pickL, mMeth, mProp, mMake, mFld, fnI, fnIR, mDisp, mPairs, o2I, gtI, geI, leI, mStar, mStarT, mStarL, mAugI, mIndex, List.replicate, eL, h2]
theorem other_right_ok (hT : Draws T) {M : Mod} (hM : ModOk M) {ready part : List Str} (hr : RoundOk M ready part) (r : R) : ∃ r', f__law_other_right T [.res, dMod M, netD M, .tup (dS ready), .tup (dS part)] r = some (.sh (.bl true), r') := by
  obtain ⟨e, p, x, b, y, r1, hp, hx, hy, q1⟩ := other_ok hT hM r
  have hMo := wayM_ok (b := b) hM hx hy
  have hN := wayM_ok (b := b) (ordM_ok hM) (e := e) (x := x) (y := y) hx hy
  have hl := hr.l
  have d2 := hM.d2
  have q2 := are_moving_ok (T := T) hMo (l := ready ++ part) (by rw [List.length_append]; omega) r1
  have hz : ready.length + part.length ≤ sizeLine := by unfold sizeLine; omega
  have hadd : addD (.tup (dS ready)) (.tup (dS part)) = some (.sh (.tup (dS (ready ++ part)))) := by
    simp [addD, dS, hz]
  refine ⟨r1, ?_⟩
  unfold f__law_other_right m__law_other_right
  generalize hU : mUnp _ _ = U
  have eU : U ⟨[some ⟨.res, false⟩, some ⟨dMod M, false⟩, some ⟨netD M, false⟩, some ⟨.tup (dS ready), false⟩, some ⟨.tup (dS part), false⟩, none, none, none, none, none, none, none, none, none], r⟩ = some (.nx, ⟨[some ⟨.res, false⟩, some ⟨dMod M, false⟩, some ⟨netD M, false⟩, some ⟨.tup (dS ready), false⟩, some ⟨.tup (dS part), false⟩, some ⟨dMod (wayM M e x b y), false⟩, some ⟨.str e, false⟩, some ⟨.str x, false⟩, some ⟨.bl b, false⟩, some ⟨dO y, false⟩, none, none, none, none], r1⟩) := by
    rw [← hU]
    refine mUnp_ok (v := .sh (.tup [dMod (wayM M e x b y), .str e, .str x, .bl b, dO y])) (s1 := ⟨[some ⟨.res, false⟩, some ⟨dMod M, false⟩, some ⟨netD M, false⟩, some ⟨.tup (dS ready), false⟩, some ⟨.tup (dS part), false⟩, none, none, none, none, none, none, none, none, none], r1⟩) ?_ rfl rfl
    generalize dMod (wayM M e x b y) = dm2 at *
    generalize dMod M = dm at *
    generalize netD M = nd at *
    generalize dO y = dy at *
    simp [fnM, fnR, ent, mSeq, mSet, mV, mC, mOp1, mOp2, mChain, mAnd, mOr, mNot, mIf, mArgs, escAll, esc, soft, pk, hard, put, puts, mHards, mPar, mTup, mLst, mDct0, mCall, mRest, mRt, mRtN, mNx, mEx, mIte, mMut, mPut, mIt, bindT, bindTs, isAtom, isLst, isDK, plainAt, wipeE, backE, mFor, mLc, mDc, mWhile, mBk, mCt, mNo, mSl, mNoP, mPt, mJoin, mRng1, mRng2, mZip, mCallK, pickL, mMeth, mProp, mMake, mFld, fnI, fnIR, mDisp, mPairs, o2I, gtI, geI, leI, mStar, mStarT, mStarL, mAugI, mIndex, q1]
  by_cases hmv : ((ready ++ part).filter fun z => !decide (z ∈ changing (wayM M e x b y))) = []
  · rw [decide_eq_true hmv] at q2
    have hch : ∀ z ∈ ready ++ part, z ∈ changing (wayM M e x b y) := fun z hz => by
      have := List.filter_eq_nil_iff.mp hmv z hz
      simpa using this
    have hcN := way_chg hM (e := e) (b := b) (y := y) hx
    have hrN : RoundOk (wayM (ordM M) e x b y) ready part := ⟨hr.r1, hr.r2, fun z h => by rw [hcN]; exact hch z (List.mem_append_left _ h), hr.p1, hr.p2, fun z h => by rw [hcN]; exact hch z (List.mem_append_right _ h), hr.d, hl⟩
    have hpo : (e, wayP b x y p) ∈ (wayM M e x b y).rows := List.mem_map.mpr ⟨(e, p), hp, if_pos rfl⟩
    have hpN : (e, wayP b x y (ordT M.dots p.1, ordT M.dots p.2)) ∈ (wayM (ordM M) e x b y).rows := List.mem_map.mpr ⟨(e, (ordT M.dots p.1, ordT M.dots p.2)), List.mem_map.mpr ⟨(e, p), hp, rfl⟩, if_pos rfl⟩
    have q3 := with_way_ok (T := T) hM (e := e) (x := x) (List.mem_map.mpr ⟨_, hp, rfl⟩) hx hy b r1
    have q4 := law_web_ok (T := T) hMo hpo ready part hr.d r1
    have q5 := ways_ok (T := T) hN hrN hpN r1
    obtain ⟨o, q6, hb⟩ := ring_ok (T := T) hN hrN hpN r1
    have hW := webOk hMo hpo ready part
    have hweb : webOf (wayM (ordM M) e x b y).dots (wayP b x y (ordT M.dots p.1, ordT M.dots p.2)) ready part = webOf (wayM M e x b y).dots (wayP b x y p) ready part := web_congr fun z hz => way_look (hM.tab _ hp) hx hz
    rw [hweb] at q5 hb
    have fw := fit_webV hMo hpo ready part
    have hk := kW_web (wayM M e x b y).dots (wayP b x y p) ready part
    generalize webOf (wayM M e x b y).dots (wayP b x y p) ready part = W at *
    obtain ⟨ps, q7, hps, hb2, hpl⟩ := law_rings_ok (T := T) hW d2 r1
    have ho := best_unique hb hb2
    subst ho
    obtain ⟨xr, hrep⟩ : ∃ xr, reprD (.lst [dOR ps.head?, dW W]) = some (.sh (.str xr)) := by
      refine Fit.repr (fit_lst (n := 1000) (k := 2) fun d hd => ?_) (by simp) (by omega)
      rcases List.mem_cons.mp hd with z | z
      · rw [z]; exact (fit_ringV hMo hk hb2).mono (by omega) (by omega)
      · rw [List.mem_singleton.mp z]; exact fw
    have heq : eqD (.str xr) (.str xr) = some (.sh (.bl true)) := by rw [eq_str]; simp
    have hmeth : ∀ {s : S R}, s.e[2]? = some (some ⟨netD M, false⟩) → s.e[6]? = some (some ⟨.str e, false⟩) → s.e[7]? = some (some ⟨.str x, false⟩) → s.e[8]? = some (some ⟨.bl b, false⟩) → s.e[9]? = some (some ⟨dO y, false⟩) → s.r = r1 →
        mMeth 0 "with_way" (f_Net_with_way T) (mV 2) (mArgs [mV 6, mV 7, mV 8, mV 9]) s = some (.tmp (netD (wayM (ordM M) e x b y)), s) := fun {s} h2 h6 h7 h8 h9 hs => by
      obtain ⟨se, sr⟩ := s
      have hs : sr = r1 := hs
      subst hs
      have hob : netD M = .obj 0 (netF M) := rfl
      have hlk : ∀ z : D, (("with_way" : Str), z) ∉ netF M := fun z hz => by
        have h := List.mem_map_of_mem (f := (·.1)) hz
        have hm : (netF M).map (·.1) = [("own_tables" : Str), "own_goals", "own_nodes", "own_sources", "own_posts", "own_changing"] := rfl
        rw [hm] at h
        have h : ("with_way" : Str) ∈ [("own_tables" : Str), "own_goals", "own_nodes", "own_sources", "own_posts", "own_changing"] := h
        exact absurd h (by decide +kernel)
      rw [hob] at q3 h2
      generalize netF M = nf at *
      generalize netD (wayM (ordM M) e x b y) = nd2 at *
      generalize dO y = dy at *
      simp only at h2 h6 h7 h8 h9
      simp [fnM, fnR, ent, mSeq, mSet, mV, mC, mOp1, mOp2, mChain, mAnd, mOr, mNot, mIf, mArgs, escAll, esc, soft, pk, hard, put, puts, mHards, mPar, mTup, mLst, mDct0, mCall, mRest, mRt, mRtN, mNx, mEx, mIte, mMut, mPut, mIt, bindT, bindTs, isAtom, isLst, isDK, plainAt, wipeE, backE, mFor, mLc, mDc, mWhile, mBk, mCt, mNo, mSl, mNoP, mPt, mJoin, mRng1, mRng2, mZip, mCallK, pickL, mMeth, mProp, mMake, mFld, fnI, fnIR, mDisp, mPairs, o2I, gtI, geI, leI, mStar, mStarT, mStarL, mAugI, mIndex, h2, h6, h7, h8, h9, q3, hlk]
    have nn := ne_lst_nil (ps.map dR)
    have hd := head_due ps
    generalize hMe : mMeth 0 "with_way" _ _ _ = Me at *
    generalize netD (wayM (ordM M) e x b y) = nd2 at *
    generalize dMod (wayM M e x b y) = dm2 at *
    generalize dMod M = dm at *
    generalize netD M = nd at *
    generalize dW W = dw at *
    have hadd2 := hadd
    generalize dS (ready ++ part) = drp at *
    generalize hdr : dS ready = dr at *
    generalize hdp : dS part = dp at *
    generalize dO y = dy at *
    have eMe : Me ⟨[some ⟨.res, false⟩, some ⟨dm, false⟩, some ⟨nd, false⟩, some ⟨.tup dr, false⟩, some ⟨.tup dp, false⟩, some ⟨dm2, false⟩, some ⟨.str e, false⟩, some ⟨.str x, false⟩, some ⟨.bl b, false⟩, some ⟨dy, false⟩, none, none, none, none], r1⟩ = some (.tmp nd2, ⟨[some ⟨.res, false⟩, some ⟨dm, false⟩, some ⟨nd, false⟩, some ⟨.tup dr, false⟩, some ⟨.tup dp, false⟩, some ⟨dm2, false⟩, some ⟨.str e, false⟩, some ⟨.str x, false⟩, some ⟨.bl b, false⟩, some ⟨dy, false⟩, none, none, none, none], r1⟩) := hmeth rfl rfl rfl rfl rfl rfl
    cases ps with
    | nil =>
      simp only [List.map_nil] at q7 nn hd
      simp only [List.head?_nil, dOR] at q6 hrep
      simp [fnM, fnR, ent, mSeq, mSet, mV, mC, mOp1, mOp2, mChain, mAnd, mOr, mNot, mIf, mArgs, escAll, esc, soft, pk, hard, put, puts, mHards, mPar, mTup, mLst, mDct0, mCall, mRest, mRt, mRtN, mNx, mEx, mIte, mMut, mPut, mIt, bindT, bindTs, isAtom, isLst, isDK, plainAt, wipeE, backE, mFor, mLc, mDc, mWhile, mBk, mCt, mNo, mSl, mNoP, mPt, mJoin, mRng1, mRng2, mZip, mCallK, pickL, mMeth, mProp, mMake, mFld, fnI, fnIR, mDisp, mPairs, o2I, gtI, geI, leI, mStar, mStarT, mStarL, mAugI, mIndex, List.replicate, eU, hadd2, q2, eMe, q4, q7, nn, q5, q6, hrep, heq]
    | cons a ps =>
      simp only [List.map_cons, List.head?_cons, Option.map_some] at q7 nn hd
      simp only [List.head?_cons, dOR] at q6 hrep
      have q6 : f_ring T [nd2, .tup dr, .tup dp, .str e] r1 = some (.sh (.tup (dS a)), r1) := q6
      have hd : idxD (.lst (dR a :: ps.map dR)) (.int 0) = some (.sh (.tup (dS a))) := hd
      have nn : neD (.lst (dR a :: ps.map dR)) (.lst []) = some (.sh (.bl true)) := by rw [nn]; simp
      have hrep : reprD (.lst [.tup (dS a), dw]) = some (.sh (.str xr)) := hrep
      generalize dR a :: ps.map dR = dps at *
      generalize dS a = da at *
      simp [fnM, fnR, ent, mSeq, mSet, mV, mC, mOp1, mOp2, mChain, mAnd, mOr, mNot, mIf, mArgs, escAll, esc, soft, pk, hard, put, puts, mHards, mPar, mTup, mLst, mDct0, mCall, mRest, mRt, mRtN, mNx, mEx, mIte, mMut, mPut, mIt, bindT, bindTs, isAtom, isLst, isDK, plainAt, wipeE, backE, mFor, mLc, mDc, mWhile, mBk, mCt, mNo, mSl, mNoP, mPt, mJoin, mRng1, mRng2, mZip, mCallK, pickL, mMeth, mProp, mMake, mFld, fnI, fnIR, mDisp, mPairs, o2I, gtI, geI, leI, mStar, mStarT, mStarL, mAugI, mIndex, List.replicate, eU, hadd2, q2, eMe, q4, q7, nn, hd, q5, q6, hrep, heq]
  · rw [decide_eq_false hmv] at q2
    generalize dMod (wayM M e x b y) = dm2 at *
    generalize dMod M = dm at *
    generalize netD M = nd at *
    generalize dO y = dy at *
    simp [fnM, fnR, ent, mSeq, mSet, mV, mC, mOp1, mOp2, mChain, mAnd, mOr, mNot, mIf, mArgs, escAll, esc, soft, pk, hard, put, puts, mHards, mPar, mTup, mLst, mDct0, mCall, mRest, mRt, mRtN, mNx, mEx, mIte, mMut, mPut, mIt, bindT, bindTs, isAtom, isLst, isDK, plainAt, wipeE, backE, mFor, mLc, mDc, mWhile, mBk, mCt, mNo, mSl, mNoP, mPt, mJoin, mRng1, mRng2, mZip, mCallK, pickL, mMeth, mProp, mMake, mFld, fnI, fnIR, mDisp, mPairs, o2I, gtI, geI, leI, mStar, mStarT, mStarL, mAugI, mIndex, List.replicate, eU, hadd, q2]
theorem for_W (P : S R → Prop) {Tt : Tg} {mb : MS R} (ds : List D) (h : ∀ d ∈ ds, ∀ s, P s → match bindT Tt d s.e with
      | some e' => Ev (mb { s with e := e' }) (fun fl s' => fl = .nx ∧ P s')
      | none => False) (s : S R) (hs : P s) : Ev (forL Tt mb ds s) (fun fl s' => fl = .nx ∧ P s') := by
  refine for_ev (fun l s => (∀ d ∈ l, d ∈ ds) ∧ P s) (fun fl s' => fl = .nx ∧ P s') (fun d l s hI => ?_) (fun s hI => ⟨rfl, hI.2⟩) ds s ⟨fun d hd => hd, hs⟩
  have q := h d (hI.1 d List.mem_cons_self) s hI.2
  split at q
  · rename_i e' eb
    try rw [eb]
    refine q.mono fun fl s' hq => ?_
    obtain ⟨rfl, hq⟩ := hq
    exact ⟨fun d hd => hI.1 d (List.mem_cons_of_mem _ hd), hq⟩
  · exact q.elim
end
theorem law_k06 : ∀ (ns : List Int) (b : Bool) (r : Dr), ns.length ≤ 63 → ∃ s', m_law_k06 (f_take b) ⟨lawE 10 ns (some ⟨.res, false⟩), r⟩ = some (.rt (.sh (.bl true)), s') := by
  intro ns b r0 hns
  have hT := take_ok b
  generalize f_take b = T at hT
  suffices h : Ev (m_law_k06 T ⟨lawE 10 ns (some ⟨.res, false⟩), r0⟩) (fun fl s => fl = .rt (.sh (.bl true))) by
    obtain ⟨fl, s, e, rfl⟩ := h
    exact ⟨s, e⟩
  unfold m_law_k06 lawE
  generalize hF : mFor (mRng1 (mOp2 addD (mC (.int 8)) _)) _ _ = F1
  simp [fnM, fnR, ent, mSeq, mSet, mV, mC, mOp1, mOp2, mChain, mAnd, mOr, mNot, mIf, mArgs, escAll, esc, soft, pk, hard, put, puts, mHards, mPar, mTup, mLst, mDct0, mCall, mRest, mRt, mRtN, mNx, mEx, mIte, mMut, mPut, mIt, bindT, bindTs, isAtom, isLst, isDK, plainAt, wipeE, backE, mFor, mLc, mDc, mWhile, mBk, mCt, mNo, mSl, mNoP, mPt, mJoin, mRng1, mRng2, mZip, mCallK, pickL, mMeth, mProp, mMake, mFld, fnI, fnIR, mDisp, mPairs, o2I, gtI, geI, leI, mStar, mStarT, mStarL, mAugI, mIndex, List.replicate]
  subst hF
  let P : S Dr → Prop := fun s => ∃ (a2 a3 a4 a5 a6 a7 a8 a9 a10 a11 : Option Cell) (r' : Dr), s = ⟨[some ⟨.scr ns, false⟩, some ⟨.res, false⟩, a2, a3, a4, a5, a6, a7, a8, a9, a10, a11], r'⟩
  let m : Nat := 8 + min 30 ns.length
  have hm : m ≤ 38 := by show 8 + min 30 ns.length ≤ 38; omega
  have hrg : mRng1 (mOp2 addD (mC (.int 8)) (mOp2 min2 (mOp1 lenD (mV 0)) (mC (.int 30)))) (⟨[some ⟨.scr ns, false⟩, some ⟨.res, false⟩, none, none, none, none, none, none, none, none, none, none], r0⟩ : S Dr) = some (rangeOf m 0, ⟨[some ⟨.scr ns, false⟩, some ⟨.res, false⟩, none, none, none, none, none, none, none, none, none, none], r0⟩) := by
    have hl : lenD (.scr ns) = some (.sh (.int ns.length)) := rfl
    have h1 : min2 (.int ns.length) (.int 30) = some (.sh (.int (min 30 ns.length : Nat))) := by
      show some (Vr.sh (D.int (if (30 : Int) < ns.length then (30 : Int) else ns.length))) = _
      congr 3
      split <;> omega
    have h2 : addD (.int 8) (.int (min 30 ns.length : Nat)) = some (.sh (.int (m : Nat))) := by
      show some (Vr.sh (D.int (8 + ((min 30 ns.length : Nat) : Int)))) = _
      congr 3
    refine rng1 (i := (m : Int)) ?_ rfl (by omega)
    generalize hm : m = m' at *
    generalize hk : min 30 ns.length = k' at *
    simp only [mOp2, mC, mOp1, mV, List.getElem?_cons_zero, Option.bind_some, soft, pk, if_false, Bool.false_eq_true, hl, Option.map_some, h1, h2]
  refine (mFor_ev hrg (for_W P (rangeOf m 0) (fun d hd s hs => ?_) _ ⟨none, none, none, none, none, none, none, none, none, none, r0, rfl⟩)).mono ?_
  rotate_left
  · rintro fl s ⟨rfl, a2, a3, a4, a5, a6, a7, a8, a9, a10, a11, r', rfl⟩
    simp
  obtain ⟨a2, a3, a4, a5, a6, a7, a8, a9, a10, a11, r', rfl⟩ := hs
  obtain ⟨M, r1, hM, e1⟩ := model_ok hT 2 6 (by omega) (by omega) (by omega) (by omega) r'
  have e1 : f__law_model T [.res, .int 2, .int 6] r' = some (.tmp (dMod M), r1) := e1
  have e2 := law_net_ok (T := T) hM r1
  have hi1 := idx_m1 M
  have d2 := hM.d2
  -- the laps
  let Q : S Dr → Prop := fun s => ∃ (b3 b4 : Bool) (a5 a6 a7 a8 a9 a10 a11 : Option Cell) (r' : Dr), s = ⟨[some ⟨.scr ns, false⟩, some ⟨.res, false⟩, some ⟨d, false⟩, some ⟨dMod M, b3⟩, some ⟨netD M, b4⟩, a5, a6, a7, a8, a9, a10, a11], r'⟩
  generalize hF : mFor (mRng1 (mC (.int 3))) _ _ = F2
  have eF : ∀ s, Q s → Ev (F2 s) (fun fl s' => fl = .nx ∧ Q s') := by
    intro s hs
    rw [← hF]
    obtain ⟨b3, b4, a5, a6, a7, a8, a9, a10, a11, r2, rfl⟩ := hs
    have hrg2 : mRng1 (mC (.int 3)) (⟨[some ⟨.scr ns, false⟩, some ⟨.res, false⟩, some ⟨d, false⟩, some ⟨dMod M, b3⟩, some ⟨netD M, b4⟩, a5, a6, a7, a8, a9, a10, a11], r2⟩ : S Dr) = some (rangeOf 3 0, ⟨[some ⟨.scr ns, false⟩, some ⟨.res, false⟩, some ⟨d, false⟩, some ⟨dMod M, b3⟩, some ⟨netD M, b4⟩, a5, a6, a7, a8, a9, a10, a11], r2⟩) := rng1 (i := 3) rfl rfl (by omega)
    refine mFor_ev hrg2 (for_W Q (rangeOf 3 0) (fun j hj s hs => ?_) _ ⟨b3, b4, a5, a6, a7, a8, a9, a10, a11, r2, rfl⟩)
    obtain ⟨b3, b4, a5, a6, a7, a8, a9, a10, a11, r2, rfl⟩ := hs
    obtain ⟨ready, part, r3, hr, e3⟩ := round_ok hT hM r2
    obtain ⟨r4, e4⟩ := other_right_ok hT hM hr r3
    generalize hU : mUnp _ _ = U
    have eU : U ⟨[some ⟨.scr ns, false⟩, some ⟨.res, false⟩, some ⟨d, false⟩, some ⟨dMod M, b3⟩, some ⟨netD M, b4⟩, some ⟨j, false⟩, a6, a7, a8, a9, a10, a11], r2⟩ = some (.nx, ⟨[some ⟨.scr ns, false⟩, some ⟨.res, false⟩, some ⟨d, false⟩, some ⟨dMod M, false⟩, some ⟨netD M, b4⟩, some ⟨j, false⟩, some ⟨.tup (dS ready), false⟩, some ⟨.tup (dS part), false⟩, a8, a9, a10, a11], r3⟩) := by
      rw [← hU]
      refine mUnp_ok (v := .sh (.tup [.tup (dS ready), .tup (dS part)])) (s1 := ⟨[some ⟨.scr ns, false⟩, some ⟨.res, false⟩, some ⟨d, false⟩, some ⟨dMod M, false⟩, some ⟨netD M, b4⟩, some ⟨j, false⟩, a6, a7, a8, a9, a10, a11], r3⟩) ?_ rfl rfl
      generalize dMod M = dm at *
      generalize netD M = nd at *
      cases b3 <;> simp [fnM, fnR, ent, mSeq, mSet, mV, mC, mOp1, mOp2, mChain, mAnd, mOr, mNot, mIf, mArgs, escAll, esc, soft, pk, hard, put, puts, mHards, mPar, mTup, mLst, mDct0, mCall, mRest, mRt, mRtN, mNx, mEx, mIte, mMut, mPut, mIt, bindT, bindTs, isAtom, isLst, isDK, plainAt, wipeE, backE, mFor, mLc, mDc, mWhile, mBk, mCt, mNo, mSl, mNoP, mPt, mJoin, mRng1, mRng2, mZip, mCallK, pickL, mMeth, mProp, mMake, mFld, fnI, fnIR, mDisp, mPairs, o2I, gtI, geI, leI, mStar, mStarT, mStarL, mAugI, mIndex, e3]
    -- the goals
    let G : S Dr → Prop := fun s => ∃ (b4 : Bool) (a8 a9 a10 a11 : Option Cell), s = ⟨[some ⟨.scr ns, false⟩, some ⟨.res, false⟩, some ⟨d, false⟩, some ⟨dMod M, false⟩, some ⟨netD M, b4⟩, some ⟨j, false⟩, some ⟨.tup (dS ready), false⟩, some ⟨.tup (dS part), false⟩, a8, a9, a10, a11], r3⟩
    generalize hF3 : mFor (mIt itemsOf (mOp2 idxD (mV 3) (mC (.str "tables")))) _ _ = F3
    have eF3 : ∀ s, G s → Ev (F3 s) (fun fl s' => fl = .nx ∧ G s') := by
      intro s hs
      rw [← hF3]
      obtain ⟨b4, a8, a9, a10, a11, rfl⟩ := hs
      have hit : mIt itemsOf (mOp2 idxD (mV 3) (mC (.str "tables"))) (⟨[some ⟨.scr ns, false⟩, some ⟨.res, false⟩, some ⟨d, false⟩, some ⟨dMod M, false⟩, some ⟨netD M, b4⟩, some ⟨j, false⟩, some ⟨.tup (dS ready), false⟩, some ⟨.tup (dS part), false⟩, a8, a9, a10, a11], r3⟩ : S Dr) = some (dS (M.rows.map (·.1)), ⟨[some ⟨.scr ns, false⟩, some ⟨.res, false⟩, some ⟨d, false⟩, some ⟨dMod M, false⟩, some ⟨netD M, b4⟩, some ⟨j, false⟩, some ⟨.tup (dS ready), false⟩, some ⟨.tup (dS part), false⟩, a8, a9, a10, a11], r3⟩) := by
        have h2 := items_dT dP M.rows
        generalize dMod M = dm at *
        generalize dT dP M.rows = dr at *
        simp [fnM, fnR, ent, mSeq, mSet, mV, mC, mOp1, mOp2, mChain, mAnd, mOr, mNot, mIf, mArgs, escAll, esc, soft, pk, hard, put, puts, mHards, mPar, mTup, mLst, mDct0, mCall, mRest, mRt, mRtN, mNx, mEx, mIte, mMut, mPut, mIt, bindT, bindTs, isAtom, isLst, isDK, plainAt, wipeE, backE, mFor, mLc, mDc, mWhile, mBk, mCt, mNo, mSl, mNoP, mPt, mJoin, mRng1, mRng2, mZip, mCallK, pickL, mMeth, mProp, mMake, mFld, fnI, fnIR, mDisp, mPairs, o2I, gtI, geI, leI, mStar, mStarT, mStarL, mAugI, mIndex, hi1, h2]
      refine mFor_ev hit (for_W G (dS (M.rows.map (·.1))) (fun x hx s hs => ?_) _ ⟨b4, a8, a9, a10, a11, rfl⟩)
      obtain ⟨b4, a8, a9, a10, a11, rfl⟩ := hs
      obtain ⟨e, he, rfl⟩ := List.mem_map.mp hx
      obtain ⟨⟨e', p⟩, hp, rfl⟩ := List.mem_map.mp he
      generalize hee : (e', p).1 = e
      have hee : e' = e := hee
      subst hee
      have q4 := law_web_ok (T := T) hM hp ready part hr.d r3
      obtain ⟨o, q6, hb⟩ := ring_ok (T := T) hM hr hp r3
      have hW := webOk hM hp ready part
      have hk := kW_web M.dots p ready part
      generalize webOf M.dots p ready part = W at *
      obtain ⟨ps, q7, hps, hb2, hpl⟩ := law_rings_ok (T := T) hW d2 r3
      have ho := best_unique hb hb2
      subst ho
      obtain ⟨xr, hrep⟩ : ∃ xr, reprD (dOR ps.head?) = some (.sh (.str xr)) := Fit.repr (fit_ringV hM hk hb2) (by omega) (by omega)
      have hne : neD (.str xr) (.str xr) = some (.sh (.bl false)) := by rw [ne_str]; simp
      have nn := ne_lst_nil (ps.map dR)
      have hd := head_due ps
      have hG : ∀ b4 a9 a10 a11, G ⟨[some ⟨.scr ns, false⟩, some ⟨.res, false⟩, some ⟨d, false⟩, some ⟨dMod M, false⟩, some ⟨netD M, b4⟩, some ⟨j, false⟩, some ⟨.tup (dS ready), false⟩, some ⟨.tup (dS part), false⟩, some ⟨.str e', false⟩, a9, a10, a11], r3⟩ := fun b4 a9 a10 a11 => ⟨b4, _, a9, a10, a11, rfl⟩
      clear_value G
      generalize dMod M = dm at *
      generalize netD M = nd at *
      generalize dW W = dw at *
      generalize dS ready = dr at *
      generalize dS part = dp at *
      cases ps with
      | nil =>
        simp only [List.map_nil] at q7 nn hd
        simp only [List.head?_nil, dOR] at q6 hrep
        cases b4 <;> simp [fnM, fnR, ent, mSeq, mSet, mV, mC, mOp1, mOp2, mChain, mAnd, mOr, mNot, mIf, mArgs, escAll, esc, soft, pk, hard, put, puts, mHards, mPar, mTup, mLst, mDct0, mCall, mRest, mRt, mRtN, mNx, mEx, mIte, mMut, mPut, mIt, bindT, bindTs, isAtom, isLst, isDK, plainAt, wipeE, backE, mFor, mLc, mDc, mWhile, mBk, mCt, mNo, mSl, mNoP, mPt, mJoin, mRng1, mRng2, mZip, mCallK, pickL, mMeth, mProp, mMake, mFld, fnI, fnIR, mDisp, mPairs, o2I, gtI, geI, leI, mStar, mStarT, mStarL, mAugI, mIndex, q4, q7, nn, q6, hrep, hne, forL, itemsOf, hG]
      | cons a ps =>
        simp only [List.map_cons, List.head?_cons, Option.map_some] at q7 nn hd
        have nn : neD (.lst (dR a :: ps.map dR)) (.lst []) = some (.sh (.bl true)) := by rw [nn]; simp
        simp only [List.head?_cons, dOR] at q6 hrep
        have q6 : f_ring T [nd, .tup dr, .tup dp, .str e'] r3 = some (.sh (.tup (dS a)), r3) := q6
        have hd : idxD (.lst (dR a :: ps.map dR)) (.int 0) = some (.sh (.tup (dS a))) := hd
        have hrep : reprD (.tup (dS a)) = some (.sh (.str xr)) := hrep
        generalize dR a :: ps.map dR = dps at *
        generalize dS a = da at *
        cases b4 <;> simp [fnM, fnR, ent, mSeq, mSet, mV, mC, mOp1, mOp2, mChain, mAnd, mOr, mNot, mIf, mArgs, escAll, esc, soft, pk, hard, put, puts, mHards, mPar, mTup, mLst, mDct0, mCall, mRest, mRt, mRtN, mNx, mEx, mIte, mMut, mPut, mIt, bindT, bindTs, isAtom, isLst, isDK, plainAt, wipeE, backE, mFor, mLc, mDc, mWhile, mBk, mCt, mNo, mSl, mNoP, mPt, mJoin, mRng1, mRng2, mZip, mCallK, pickL, mMeth, mProp, mMake, mFld, fnI, fnIR, mDisp, mPairs, o2I, gtI, geI, leI, mStar, mStarT, mStarL, mAugI, mIndex, q4, q7, nn, hd, q6, hrep, hne, forL, itemsOf, hG]
    obtain ⟨fl, s3, eq3, rfl, hs3⟩ := eF3 ⟨[some ⟨.scr ns, false⟩, some ⟨.res, false⟩, some ⟨d, false⟩, some ⟨dMod M, false⟩, some ⟨netD M, b4⟩, some ⟨j, false⟩, some ⟨.tup (dS ready), false⟩, some ⟨.tup (dS part), false⟩, a8, a9, a10, a11], r3⟩ ⟨b4, a8, a9, a10, a11, rfl⟩
    obtain ⟨c4, c8, c9, c10, c11, rfl⟩ := hs3
    have hQ : ∀ b4, Q ⟨[some ⟨.scr ns, false⟩, some ⟨.res, false⟩, some ⟨d, false⟩, some ⟨dMod M, false⟩, some ⟨netD M, b4⟩, some ⟨j, false⟩, some ⟨.tup (dS ready), false⟩, some ⟨.tup (dS part), false⟩, c8, c9, c10, c11], r4⟩ := fun b4 => ⟨false, b4, _, _, _, c8, c9, c10, c11, r4, rfl⟩
    clear_value Q
    generalize dMod M = dm at *
    generalize netD M = nd at *
    generalize dS ready = dr at *
    generalize dS part = dp at *
    cases c4 <;> simp [fnM, fnR, ent, mSeq, mSet, mV, mC, mOp1, mOp2, mChain, mAnd, mOr, mNot, mIf, mArgs, escAll, esc, soft, pk, hard, put, puts, mHards, mPar, mTup, mLst, mDct0, mCall, mRest, mRt, mRtN, mNx, mEx, mIte, mMut, mPut, mIt, bindT, bindTs, isAtom, isLst, isDK, plainAt, wipeE, backE, mFor, mLc, mDc, mWhile, mBk, mCt, mNo, mSl, mNoP, mPt, mJoin, mRng1, mRng2, mZip, mCallK, pickL, mMeth, mProp, mMake, mFld, fnI, fnIR, mDisp, mPairs, o2I, gtI, geI, leI, mStar, mStarT, mStarL, mAugI, mIndex, eU, eq3, e4, hQ]
  have hP : ∀ b3 b4 a5 a6 a7 a8 a9 a10 a11 r', P ⟨[some ⟨.scr ns, false⟩, some ⟨.res, false⟩, some ⟨d, false⟩, some ⟨dMod M, b3⟩, some ⟨netD M, b4⟩, a5, a6, a7, a8, a9, a10, a11], r'⟩ := fun b3 b4 a5 a6 a7 a8 a9 a10 a11 r' => ⟨_, _, _, a5, a6, a7, a8, a9, a10, a11, r', rfl⟩
  have eF2 := eF ⟨[some ⟨.scr ns, false⟩, some ⟨.res, false⟩, some ⟨d, false⟩, some ⟨dMod M, false⟩, some ⟨netD M, true⟩, a5, a6, a7, a8, a9, a10, a11], r1⟩ ⟨false, true, a5, a6, a7, a8, a9, a10, a11, r1, rfl⟩
  obtain ⟨fl, s3, eq3, rfl, b3, b4, c5, c6, c7, c8, c9, c10, c11, r4, rfl⟩ := eF2
  clear_value P
  generalize dMod M = dm at *
  generalize netD M = nd at *
  simp [fnM, fnR, ent, mSeq, mSet, mV, mC, mOp1, mOp2, mChain, mAnd, mOr, mNot, mIf, mArgs, escAll, esc, soft, pk, hard, put, puts, mHards, mPar, mTup, mLst, mDct0, mCall, mRest, mRt, mRtN, mNx, mEx, mIte, mMut, mPut, mIt, bindT, bindTs, isAtom, isLst, isDK, plainAt, wipeE, backE, mFor, mLc, mDc, mWhile, mBk, mCt, mNo, mSl, mNoP, mPt, mJoin, mRng1, mRng2, mZip, mCallK, pickL, mMeth, mProp, mMake, mFld, fnI, fnIR, mDisp, mPairs, o2I, gtI, geI, leI, mStar, mStarT, mStarL, mAugI, mIndex, e1, e2, eq3, hP]
end RW
set_option maxHeartbeats 0
open PySem PySem.W PySem.Calls PyProof.Rows
theorem PySem.Challenge.cw_roundways_k06_rings_of_mixtures_holds : PySem.Challenge.rw_roundways_k06_rings_of_mixtures.Holds := by
  w_on; o_law
  refine HandSHeadRun.head_any (r := OpenLaw.row PySem.Challenge.rw_roundways_k06_rings_of_mixtures) (q := view (OpenLaw.row PySem.Challenge.rw_roundways_k06_rings_of_mixtures).prog [58]) (H := RW.hk) (ob := RW.ob) (M := 8000) (loose := RW.nms) (d := HandSHeadRun.topDef (OpenLaw.row PySem.Challenge.rw_roundways_k06_rings_of_mixtures).prog 58) (kwd := []) RW.ob_eq
    (by kernel_rfl) (fun s => by kernel_rfl) RW.run (by kernel_rfl) (by kernel_rfl) (by kernel_rfl) (by rfl) (by first | assumption | decide +kernel) (by decide +kernel) ⟨rfl, rfl, rfl, rfl, rfl, by decide +kernel⟩ ?hw ?hc
  case hw => w_witness2
  case hc =>
    refine RW.end_ofP (l := PySem.Challenge.rw_roundways_k06_rings_of_mixtures) (n := 63) (k := 9) (x := "script") rfl (by decide) (by kernel_rfl) ⟨rfl, by decide, by decide⟩ ?_
    intro w mg f h K S gn hmg
    have hmg : mg ("law" : PySem.Str) = some (.ref f) := by
      have e : (HandSHeadRun.topDef (OpenLaw.row PySem.Challenge.rw_roundways_k06_rings_of_mixtures).prog 58).name = ("law" : PySem.Str) := by kernel_rfl
      rw [← e]
      exact hmg
    have e := hmg.symm.trans (RW.G_law (g := RW.g0 K (RW.clsOf K)) S.kin gn S.c)
    cases e
    obtain ⟨fd, F⟩ := S.c.def_ 47 (d := ⟨("law", none), "law", "law", L2.defArgs (RW.top 58), L2.defBody (RW.top 58), L2.defScope (RW.top 58), [], []⟩) rfl
    have b := L2.FunD.bindsA (ps := ["script"]) F fun _ _ _ _ _ _ us hl => match us, hl with | [_], _ => rfl
    exact ⟨fd, fun s v => b s [v] rfl, fun base kb gb sy => RW.ok_law kb gb S.c sy S.ex S.gt (RW.begin_ok _) RW.law_k06 F⟩
